import PyProof.Rows.All
import Wide.All
import OpenK.AllK
import Wide.FinOn
import HandS.ForMost
import HandS.ForExc
import HandS.IsInst
import HandS.Zip
import HandS.Style
import HandS.TupAny
import HandS.Flow
import HandS.Lambda
import HandS.EndTab
import HandS.ExcInit
import HandS.ExcIs
import HandS.ExcField
import HandS.ExcValue
import KE.KExcSuper
import HandS.HeadWalk
import HandS.Codes
import HandS.WordsExc
import HandS.Strs
import HandS.DictComp
import HandS.WordsDict
import PyProof.CallFns
import HandS.TryOnly
import KE.KExcIs
import PyProof.StrBlock2
import PyProof.ReprRoads
import HandS.Head0
import HandS.Head1
import HandS.Head2
import HandS.HeadEnd
import HandS.HeadHook4
import HandS.OwnEq
import HandS.ListEq
import PyProof.InstNe
import PyProof.FitsInt
import PyProof.StrLawsRepr
import HandS.WideBits
import PySem.Challenge.RW_halfbuilt_k77_texts_of_schemas_changed
set_option Elab.async false
set_option linter.all false
set_option maxRecDepth 100000
set_option maxHeartbeats 0
namespace DL
open PySem PySem.Spec PyProof.Rows L2

inductive D where
  | non | bl (b : Bool) | int (i : Int) | str (s : Str) | tup (ds : List D) | lst (ds : List D)
  | dct (ks : List (Key × D)) | ins (C : Addr) (fs : List (Str × D)) | raw (v : V) | drw | lsq (ds : List D)
inductive Rx where
  | d (x : D) | own (i : Nat)

inductive Rs where
  | no | dr (a c : Addr)
def Rs.fp : Rs → List Addr
  | .no => []
  | .dr a c => [a, c]
def Rs.ok : Rs → Hp → Prop
  | .no, _ => True
  | .dr a c, H => a ≠ c ∧ ∃ (ns : List Int) (i m : Int), H a = some (.lst [.ref c, .int i, .int m]) ∧ H c = some (.lst (ns.map V.int)) ∧ ns ≠ [] ∧ ns.length ≤ 63 ∧ (∀ n ∈ ns, 0 ≤ n) ∧ 0 ≤ i ∧ 0 ≤ m ∧ m < 2147483648
theorem Rs.ok_keep {r : Rs} {H H' : Hp} (h : r.ok H) (k : ∀ p ∈ r.fp, H' p = H p) : r.ok H' := by
  cases r with
  | no => trivial
  | dr a c =>
    obtain ⟨h1, ns, i, m, h2, h3, h4⟩ := h
    exact ⟨h1, ns, i, m, (k a (by simp [Rs.fp])).trans h2, (k c (by simp [Rs.fp])).trans h3, h4⟩
theorem Rs.ok_at {r : Rs} {H : Hp} (h : r.ok H) : ∀ p ∈ r.fp, ∃ xs, H p = some (.lst xs) := by
  cases r with
  | no => intro p hp; cases hp
  | dr a c =>
    obtain ⟨h1, ns, i, m, h2, h3, h4⟩ := h
    intro p hp
    rcases List.mem_cons.mp hp with e | e
    · exact ⟨_, by rw [e]; exact h2⟩
    · rcases List.mem_cons.mp e with e | e
      · exact ⟨_, by rw [e]; exact h3⟩
      · cases e

def Ex (F H : Hp) : Prop := ∀ a o, F a = some o → H a = some o
theorem Ex.rf (F : Hp) : Ex F F := fun _ _ e => e
theorem Ex.tr {F G H : Hp} (a : Ex F G) (b : Ex G H) : Ex F H := fun p o e => b p o (a p o e)
theorem Ex.up {F : Hp} {p : Addr} {o : HO} (h : F p = none) : Ex F (upd F p o) := fun a u e => by
  rw [upd_ne (ne_of_none e h)]
  exact e
theorem Ex.back {F H : Hp} {p : Addr} (e : Ex F H) (h : H p = none) : F p = none := by
  cases q : F p with
  | none => rfl
  | some o => rw [e p o q] at h; cases h

def SOk (s : Str) : Prop := ∀ c ∈ s.cps.toList, c < 0x110000
section
variable (K : PySem.W.Frag) (rs : Rs)
mutual
inductive Rp (F : Hp) : V → D → Prop
  | non : Rp F .non .non
  | bl (b : Bool) : Rp F (.bl b) (.bl b)
  | int (i : Int) : Rp F (.int i) (.int i)
  | str (s : Str) : SOk s → Rp F (.str s) (.str s)
  | tup {a : Addr} {xs : List V} {ds : List D} : SqT K F a xs → RpL F xs ds → Rp F (.ref a) (.tup ds)
  | lst {a : Addr} {xs : List V} {ds : List D} : F a = some (.lst xs) → RpL F xs ds → Rp F (.ref a) (.lst ds)
  | dct {a : Addr} {kvs : List (Key × V)} {ds : List (Key × D)} : F a = some (.dK kvs) → kvs.map (·.1) = ds.map (·.1) → RpL F (kvs.map (·.2)) (ds.map (·.2)) → Rp F (.ref a) (.dct ds)
  | ins {a C dx : Addr} {fs : List (Str × V)} {gs : List (Str × D)} : F a = some (.ins C dx fs) → fs.map (·.1) = gs.map (·.1) → RpL F (fs.map (·.2)) (gs.map (·.2)) → Rp F (.ref a) (.ins C gs)
  | raw (v : V) : Rp F v (.raw v)
  | drw {a c : Addr} : rs = .dr a c → Rp F (.ref a) .drw
  | lsq {a : Addr} {xs : List V} {ds : List D} : SqL K F a xs → RpL F xs ds → Rp F (.ref a) (.lsq ds)
inductive RpL (F : Hp) : List V → List D → Prop
  | nil : RpL F [] []
  | cons {v : V} {vs : List V} {d : D} {ds : List D} : Rp F v d → RpL F vs ds → RpL F (v :: vs) (d :: ds)
end
end

theorem exL {K : PySem.W.Frag} {H H' : Hp} {a : Addr} {xs : List V} (e : Ex H H') (h : SqL K H a xs) : SqL K H' a xs := by
  rcases h with (h | ⟨o, h⟩) | h
  · exact .inl (.inl (e a _ h))
  · exact .inl (.inr ⟨o, e a _ h⟩)
  · exact .inr h
theorem exT {K : PySem.W.Frag} {H H' : Hp} {a : Addr} {xs : List V} (e : Ex H H') (h : SqT K H a xs) : SqT K H' a xs := by
  rcases h with (h | ⟨o, h⟩) | h
  · exact .inl (.inl (e a _ h))
  · exact .inl (.inr ⟨o, e a _ h⟩)
  · exact .inr h

section
variable {K : PySem.W.Frag} {rs : Rs} {F G : Hp}
mutual
theorem Rp.mono (e : Ex F G) : ∀ {v : V} {d : D}, Rp K rs F v d → Rp K rs G v d
  | _, _, .non => .non
  | _, _, .bl b => .bl b
  | _, _, .int i => .int i
  | _, _, .str s h => .str s h
  | _, _, .tup h r => .tup (exT e h) (RpL.mono e r)
  | _, _, .lst h r => .lst (e _ _ h) (RpL.mono e r)
  | _, _, .dct h k r => .dct (e _ _ h) k (RpL.mono e r)
  | _, _, .ins h k r => .ins (e _ _ h) k (RpL.mono e r)
  | _, _, .raw v => .raw v
  | _, _, .drw h => .drw h
  | _, _, .lsq h r => .lsq (exL e h) (RpL.mono e r)
theorem RpL.mono (e : Ex F G) : ∀ {vs : List V} {ds : List D}, RpL K rs F vs ds → RpL K rs G vs ds
  | _, _, .nil => .nil
  | _, _, .cons h r => .cons (Rp.mono e h) (RpL.mono e r)
end
theorem RpL.length : ∀ {vs : List V} {ds : List D}, RpL K rs F vs ds → vs.length = ds.length
  | _, _, .nil => rfl
  | _, _, .cons _ r => by rw [List.length_cons, List.length_cons, RpL.length r]
theorem RpL.get : ∀ {vs : List V} {ds : List D} {i : Nat} {d : D}, RpL K rs F vs ds → ds[i]? = some d → ∃ v, vs[i]? = some v ∧ Rp K rs F v d
  | _, _, _, _, .nil, e => by simp at e
  | _, _, 0, _, .cons h _, e => by
    simp at e
    subst e
    exact ⟨_, rfl, h⟩
  | _, _, i + 1, d, .cons _ r, e => by
    obtain ⟨v, h1, h2⟩ := RpL.get (i := i) (d := d) r (by simpa using e)
    exact ⟨v, by simpa using h1, h2⟩
theorem RpL.getV : ∀ {vs : List V} {ds : List D} {i : Nat} {v : V}, RpL K rs F vs ds → vs[i]? = some v → ∃ d, ds[i]? = some d ∧ Rp K rs F v d
  | _, _, _, _, .nil, e => by simp at e
  | _, _, 0, _, .cons h _, e => by
    simp at e
    subst e
    exact ⟨_, rfl, h⟩
  | _, _, i + 1, d, .cons _ r, e => by
    obtain ⟨v, h1, h2⟩ := RpL.getV (i := i) (v := d) r (by simpa using e)
    exact ⟨v, by simpa using h1, h2⟩
theorem RpL.append : ∀ {vs ws : List V} {ds es : List D}, RpL K rs F vs ds → RpL K rs F ws es → RpL K rs F (vs ++ ws) (ds ++ es)
  | _, _, _, _, .nil, r => r
  | _, _, _, _, .cons h r, s => .cons h (RpL.append r s)
theorem RpL.take : ∀ {vs : List V} {ds : List D} (n : Nat), RpL K rs F vs ds → RpL K rs F (vs.take n) (ds.take n)
  | _, _, 0, _ => by simpa using RpL.nil
  | _, _, _ + 1, .nil => .nil
  | _, _, n + 1, .cons h r => .cons h (RpL.take n r)
theorem RpL.drop : ∀ {vs : List V} {ds : List D} (n : Nat), RpL K rs F vs ds → RpL K rs F (vs.drop n) (ds.drop n)
  | _, _, 0, r => r
  | _, _, _ + 1, .nil => .nil
  | _, _, n + 1, .cons _ r => RpL.drop n r
theorem RpL.set {x : V} {d : D} (q : Rp K rs F x d) : ∀ {vs : List V} {ds : List D} (n : Nat), RpL K rs F vs ds → RpL K rs F (vs.set n x) (ds.set n d)
  | _, _, _, .nil => .nil
  | _, _, 0, .cons _ r => .cons q r
  | _, _, n + 1, .cons h r => .cons h (RpL.set q n r)
theorem RpL.eraseIdx : ∀ {vs : List V} {ds : List D} (n : Nat), RpL K rs F vs ds → RpL K rs F (vs.eraseIdx n) (ds.eraseIdx n)
  | _, _, _, .nil => .nil
  | _, _, 0, .cons _ r => r
  | _, _, n + 1, .cons h r => .cons h (RpL.eraseIdx n r)
end

structure Bs where
  rs : Rs
  F0 : Hp
  H0 : Hp
  hl : List (Addr × HO) := []
  tb : List (Addr × Str) := []
structure Tb (B : Bs) (F H : Hp) : Prop where
  ft : ∀ b ps, F b ≠ some (.tbl ps)
  hn : ∀ x ∈ B.hl, ∀ ps, x.2 ≠ .tbl ps
  tk : ∀ p ∈ B.tb, LamX.TabS H p.1 p.2 ∧ F p.1 = none ∧ B.H0 p.1 = none
  ht : B.tb ≠ [] → ∀ b ps, B.H0 b ≠ some (.tbl ps)
def NL (u : Option HO) : Prop := ∃ o, u = some o ∧ (∀ ps, o ≠ .tbl ps) ∧ ∀ φ, o ≠ .ext φ
theorem NL.lst {u : Option HO} {vs : List V} (h : u = some (.lst vs)) : NL u := ⟨_, h, ⟨fun _ z => (by cases z), fun _ z => (by cases z)⟩⟩
theorem NL.ins {u : Option HO} {C dx : Addr} {vs : List (Str × V)} (h : u = some (.ins C dx vs)) : NL u := ⟨_, h, ⟨fun _ z => (by cases z), fun _ z => (by cases z)⟩⟩
structure Gr (B : Bs) (F H : Hp) : Prop where
  f0 : Ex B.F0 F
  fh : Ex F H
  h0 : ∀ p o, B.H0 p = some o → p ∉ B.rs.fp → H p = some o
  nw : ∀ p o, F p = some o → B.F0 p = some o ∨ B.H0 p = none
  ok : B.rs.ok H
  ff : ∀ p ∈ B.rs.fp, F p = none ∧ ∃ o, B.H0 p = some o
  hd : ∀ x ∈ B.hl, H x.1 = some x.2 ∧ F x.1 = none ∧ B.H0 x.1 = none
  tb : Tb B F H

theorem Tb.laid {B : Bs} {F H : Hp} {p : Addr} {o : HO} (t : Tb B F H) (e : Ex F H) (hp : H p = none) (ho : ∀ ps, o ≠ .tbl ps) (k : Bool) : Tb B (if k then upd F p o else F) (upd H p o) := by
  refine ⟨fun b ps z => ?_, t.hn, fun q hq => ?_, t.ht⟩
  · cases k with
    | false => exact t.ft b ps z
    | true =>
      simp only [if_true] at z
      by_cases hb : b = p
      · rw [hb, upd_same] at z
        exact ho ps (Option.some.inj z)
      · rw [upd_ne hb] at z
        exact t.ft b ps z
  · obtain ⟨h1, h2, h3⟩ := t.tk q hq
    have n : q.1 ≠ p := by
      obtain ⟨ps, e1, _⟩ := h1
      exact ne_of_none e1 hp
    refine ⟨h1.ext (Ex.up hp), ?_, h3⟩
    cases k with
    | false => exact h2
    | true => simp only [if_true]; rw [upd_ne n]; exact h2
theorem TabS.write {H : Hp} {P : Addr} {q : Str} {p : Addr} {o : HO} (t : LamX.TabS H P q) (w : NL (H p)) : LamX.TabS (upd H p o) P q := by
  obtain ⟨ps, h1, h2, h3⟩ := t
  obtain ⟨u, w1, w2, w3⟩ := w
  have n : P ≠ p := fun z => by
    rw [z, w1] at h1
    exact w2 ps (Option.some.inj h1)
  refine ⟨ps, by rw [upd_ne n]; exact h1, h2, fun pos cv hc => ?_⟩
  obtain ⟨c, e1, e2⟩ := h3 pos cv hc
  refine ⟨c, e1, ?_⟩
  have n2 : c ≠ p := fun z => by
    rw [z, w1] at e2
    exact w3 _ (Option.some.inj e2)
  rw [upd_ne n2]
  exact e2
theorem Tb.write {B : Bs} {F H : Hp} {p : Addr} {o : HO} (t : Tb B F H) (w : NL (H p)) : Tb B F (upd H p o) :=
  ⟨t.ft, t.hn, fun q hq => let ⟨h1, h2, h3⟩ := t.tk q hq; ⟨TabS.write h1 w, h2, h3⟩, t.ht⟩
theorem Tb.know {B : Bs} {F H : Hp} {p : Addr} {o : HO} (t : Tb B F H) (hp : H p = some o) (ho : ∀ ps, o ≠ .tbl ps) : Tb B (upd F p o) H :=
  ⟨fun b ps z => by
    by_cases hb : b = p
    · rw [hb, upd_same] at z
      exact ho ps (Option.some.inj z)
    · rw [upd_ne hb] at z
      exact t.ft b ps z, t.hn, fun q hq => by
    obtain ⟨h1, h2, h3⟩ := t.tk q hq
    refine ⟨h1, ?_, h3⟩
    have n : q.1 ≠ p := fun z => by
      obtain ⟨ps, e1, _⟩ := h1
      rw [z, hp] at e1
      exact ho ps (Option.some.inj e1)
    rw [upd_ne n]
    exact h2, t.ht⟩
theorem TabS.keep {H H' : Hp} {P : Addr} {q : Str} (t : LamX.TabS H P q) (e : ∀ b o, H b = some o → ((∃ ps, o = .tbl ps) ∨ ∃ φ, o = .ext φ) → H' b = some o) : LamX.TabS H' P q := by
  obtain ⟨ps, h1, h2, h3⟩ := t
  refine ⟨ps, e _ _ h1 (.inl ⟨_, rfl⟩), h2, fun pos cv hc => ?_⟩
  obtain ⟨c, e1, e2⟩ := h3 pos cv hc
  exact ⟨c, e1, e _ _ e2 (.inr ⟨_, rfl⟩)⟩

inductive Ob where
  | lst (xs : List D) | ins (C : Addr) (fs : List (Str × D)) | dct (kvs : List (Key × D))
def ObR (K : PySem.W.Frag) (rs : Rs) (F : Hp) : HO → Ob → Prop
  | .lst vs, .lst xs => RpL K rs F vs xs
  | .ins C _ vs, .ins C' fs => C = C' ∧ vs.map (·.1) = fs.map (·.1) ∧ RpL K rs F (vs.map (·.2)) (fs.map (·.2))
  | .dK vs, .dct fs => vs.map (·.1) = fs.map (·.1) ∧ RpL K rs F (vs.map (·.2)) (fs.map (·.2))
  | _, _ => False
theorem ObR.mono {K : PySem.W.Frag} {rs : Rs} {F G : Hp} {o : HO} {b : Ob} (h : ObR K rs F o b) (e : Ex F G) : ObR K rs G o b := by
  unfold ObR at h ⊢
  split at h
  · exact RpL.mono e h
  · exact ⟨h.1, h.2.1, RpL.mono e h.2.2⟩
  · exact ⟨h.1, RpL.mono e h.2⟩
  · exact h.elim
theorem ObR.nl {K : PySem.W.Frag} {rs : Rs} {F : Hp} {o : HO} {b : Ob} (h : ObR K rs F o b) : NL (some o) := by
  unfold ObR at h
  split at h
  · exact ⟨_, rfl, ⟨fun _ z => (by cases z), fun _ z => (by cases z)⟩⟩
  · exact ⟨_, rfl, ⟨fun _ z => (by cases z), fun _ z => (by cases z)⟩⟩
  · exact ⟨_, rfl, ⟨fun _ z => (by cases z), fun _ z => (by cases z)⟩⟩
  · exact h.elim
inductive Sl where
  | u | d (x : D) | o (xs : List D) | c (p : Addr) (b : Ob) | t (P : Addr) (q : Str)
def SlOk (K : PySem.W.Frag) (B : Bs) (F H : Hp) (v : Option (Option V)) : Sl → Prop
  | .u => True
  | .d x => ∃ y, v = some (some y) ∧ Rp K B.rs F y x
  | .o xs => ∃ p vs, v = some (some (.ref p)) ∧ H p = some (.lst vs) ∧ RpL K B.rs F vs xs ∧ F p = none ∧ B.H0 p = none ∧ ∀ x ∈ B.hl, x.1 ≠ p
  | .c p b => ∃ o, H p = some o ∧ ObR K B.rs F o b ∧ F p = none ∧ B.H0 p = none ∧ ∀ x ∈ B.hl, x.1 ≠ p
  | .t P q => B.tb = [(P, q)]
structure Sat (K : PySem.W.Frag) (B : Bs) (F : Hp) (ρ : List Sl) (σ : L2.St) (H : Hp) : Prop extends Gr B F H where
  len : σ.length ≤ ρ.length
  sl : ∀ (i : Nat) (s : Sl), ρ[i]? = some s → SlOk K B F H (σ[i]?) s
  dj : ∀ (i j : Nat) (xs ys : List D) (v : V), ρ[i]? = some (.o xs) → ρ[j]? = some (.o ys) → σ[i]? = some (some v) → σ[j]? = some (some v) → i = j
  di : ∀ (i j : Nat) (p : Addr) (b c : Ob), ρ[i]? = some (.c p b) → ρ[j]? = some (.c p c) → i = j
  dc : ∀ (i j : Nat) (xs : List D) (p : Addr) (b : Ob), ρ[i]? = some (.o xs) → ρ[j]? = some (.c p b) → σ[i]? ≠ some (some (.ref p))
structure NoOwn (ρ : List Sl) (σ : L2.St) (p : Addr) : Prop where
  o : ∀ (j : Nat) (xs : List D), ρ[j]? = some (Sl.o xs) → σ[j]? ≠ some (some (V.ref p))
  c : ∀ (j : Nat) (b : Ob), ρ[j]? ≠ some (Sl.c p b)
def Rv (K : PySem.W.Frag) (B : Bs) (F : Hp) (σ : L2.St) (v : V) : Rx → Prop
  | .d x => Rp K B.rs F v x
  | .own i => σ[i]? = some (some v)
def Rq (K : PySem.W.Frag) (B : Bs) (F H : Hp) (v : V) (d : D) : Prop :=
  Rp K B.rs F v d ∨ ∃ p vs xs, v = .ref p ∧ d = .lst xs ∧ H p = some (.lst vs) ∧ RpL K B.rs F vs xs
section
variable {K : PySem.W.Frag} {B : Bs} {F F' H H' : Hp} {ρ ρ' : List Sl} {σ σ' : L2.St} {p : Addr} {o : HO}
theorem Gr.fresh (g : Gr B F H) (h : H p = none) : F p = none ∧ B.H0 p = none ∧ p ∉ B.rs.fp := by
  have nf : p ∉ B.rs.fp := fun hp => by
    obtain ⟨xs, e⟩ := Rs.ok_at g.ok p hp
    rw [e] at h
    cases h
  refine ⟨g.fh.back h, ?_, nf⟩
  cases q : B.H0 p with
  | none => rfl
  | some o => rw [g.h0 p o q nf] at h; cases h
theorem Gr.laid (g : Gr B F H) (h : H p = none) (k : Bool) (ho : ∀ ps, o ≠ .tbl ps := by intro _ z; cases z) : Gr B (if k then upd F p o else F) (upd H p o) := by
  obtain ⟨h1, h2, h3⟩ := g.fresh h
  cases k with
  | true =>
    refine ⟨g.f0.tr (Ex.up h1), fun a u e => ?_, fun a u e n => ?_, fun a u e => ?_, Rs.ok_keep g.ok fun a ha => upd_ne (fun z => h3 (by rw [← z]; exact ha)), fun a ha => ?_, fun x hx => ?_, g.tb.laid g.fh h ho true⟩
    · by_cases z : a = p
      · rw [z] at e ⊢
        simp only [if_true, upd_same] at e ⊢
        exact e
      · simp only [if_true] at e
        rw [upd_ne z] at e ⊢
        exact g.fh a u e
    · rw [upd_ne (fun z => by rw [z, h2] at e; cases e)]
      exact g.h0 a u e n
    · by_cases z : a = p
      · rw [z]; exact .inr h2
      · simp only [if_true] at e
        rw [upd_ne z] at e
        exact g.nw a u e
    · simp only [if_true]
      rw [upd_ne (fun z => h3 (by rw [← z]; exact ha))]
      exact g.ff a ha
    · obtain ⟨q1, q2, q3⟩ := g.hd x hx
      have n : x.1 ≠ p := ne_of_none q1 h
      simp only [if_true]
      rw [upd_ne n, upd_ne n]
      exact ⟨q1, q2, q3⟩
  | false =>
    refine ⟨g.f0, g.fh.tr (Ex.up h), fun a u e n => ?_, g.nw, Rs.ok_keep g.ok fun a ha => upd_ne (fun z => h3 (by rw [← z]; exact ha)), g.ff, fun x hx => ?_, g.tb.laid g.fh h ho false⟩
    · rw [upd_ne (fun z => by rw [z, h2] at e; cases e)]
      exact g.h0 a u e n
    · obtain ⟨q1, q2, q3⟩ := g.hd x hx
      simp only [Bool.false_eq_true, if_false]
      rw [upd_ne (ne_of_none q1 h)]
      exact ⟨q1, q2, q3⟩
theorem Gr.laidF (g : Gr B F H) (h : H p = none) (ho : ∀ ps, o ≠ .tbl ps := by intro _ z; cases z) : Gr B (upd F p o) (upd H p o) := by simpa using g.laid (o := o) h true ho
theorem Gr.laidO (g : Gr B F H) (h : H p = none) (ho : ∀ ps, o ≠ .tbl ps := by intro _ z; cases z) : Gr B F (upd H p o) := by simpa using g.laid (o := o) h false ho
theorem Gr.write (g : Gr B F H) (w : NL (H p)) (hF : F p = none) (h0 : B.H0 p = none) (hn : ∀ x ∈ B.hl, x.1 ≠ p) : Gr B F (upd H p o) := by
  refine ⟨g.f0, fun a u e => ?_, fun a u e n => ?_, g.nw, Rs.ok_keep g.ok fun a ha => ?_, g.ff, fun x hx => by rw [upd_ne (hn x hx)]; exact g.hd x hx, g.tb.write w⟩
  · rw [upd_ne (ne_of_none e hF)]; exact g.fh a u e
  · rw [upd_ne (fun z => by rw [z, h0] at e; cases e)]; exact g.h0 a u e n
  · refine upd_ne fun z => ?_
    obtain ⟨_, o', e⟩ := g.ff a ha
    rw [z, h0] at e
    cases e
theorem Gr.know (g : Gr B F H) (hH : H p = some o) (h0 : B.H0 p = none) (hF : F p = none) (hn : ∀ x ∈ B.hl, x.1 ≠ p) (ho : ∀ ps, o ≠ .tbl ps := by intro _ z; cases z) : Gr B (upd F p o) H := by
  refine ⟨g.f0.tr (Ex.up hF), fun a u e => ?_, g.h0, fun a u e => ?_, g.ok, fun a ha => ?_, fun x hx => by rw [upd_ne (hn x hx)]; exact g.hd x hx, g.tb.know hH ho⟩
  · by_cases z : a = p
    · rw [z, upd_same] at e; rw [z, hH]; exact e
    · rw [upd_ne z] at e; exact g.fh a u e
  · by_cases z : a = p
    · rw [z]; exact .inr h0
    · rw [upd_ne z] at e; exact g.nw a u e
  · obtain ⟨x, y, e⟩ := g.ff a ha
    rw [upd_ne (fun z => by rw [z, h0] at e; cases e)]
    exact ⟨x, y, e⟩
theorem Gr.nofp (g : Gr B F H) (h : B.H0 p = none) : p ∉ B.rs.fp := fun hp => by
  obtain ⟨_, o, e⟩ := g.ff p hp
  rw [h] at e
  cases e
theorem Gr.nocome {r : Rs} (c : Gr ⟨r, F, H, [], []⟩ F' H') (hH : H p ≠ none) (hF : F p = none) : F' p = none := by
  cases q : F' p with
  | none => rfl
  | some u =>
    rcases c.nw p u q with z | z
    · have z' : F p = some u := z
      rw [hF] at z'; cases z'
    · exact absurd z hH
theorem Gr.call (g : Gr B F H) (c : Gr ⟨B.rs, F, H, [], []⟩ F' H') : Gr B F' H' := by
  refine ⟨g.f0.tr c.f0, c.fh, fun a u e n => c.h0 a u (g.h0 a u e n) n, fun a u e => ?_, c.ok, fun a ha => ⟨(c.ff a ha).1, (g.ff a ha).2⟩, fun x hx => ?_, c.tb.ft, g.tb.hn, fun q hq => ?_, g.tb.ht⟩
  · rcases c.nw a u e with z | z
    · exact g.nw a u z
    · exact .inr (g.fresh z).2.1
  · obtain ⟨q1, q2, q3⟩ := g.hd x hx
    exact ⟨c.h0 _ _ q1 (g.nofp q3), c.nocome (by rw [q1]; intro z; cases z) q2, q3⟩
  · obtain ⟨h1, h2, h3⟩ := g.tb.tk q hq
    refine ⟨TabS.keep h1 fun b o e hk => c.h0 b o e fun hb => ?_, c.nocome (by obtain ⟨ps, e1, _⟩ := h1; rw [e1]; intro z; cases z) h2, h3⟩
    obtain ⟨xs, e2⟩ := Rs.ok_at g.ok b hb
    rw [e] at e2
    cases e2
    rcases hk with ⟨_, z⟩ | ⟨_, z⟩ <;> cases z
theorem Tb.nil {rs : Rs} {F H F' H' : Hp} (h : ∀ b ps, F b ≠ some (.tbl ps)) : Tb ⟨rs, F', H', [], []⟩ F H := ⟨h, fun _ hx => (nomatch hx), fun _ hx => (nomatch hx), fun z => absurd rfl z⟩
theorem Gr.self (g : Gr B F H) : Gr ⟨B.rs, F, H, [], []⟩ F H :=
  ⟨Ex.rf _, g.fh, fun _ _ e _ => e, fun _ _ e => .inl e, g.ok, fun a ha => ⟨(g.ff a ha).1, by obtain ⟨xs, e⟩ := Rs.ok_at g.ok a ha; exact ⟨_, e⟩⟩, fun _ hx => (nomatch hx), Tb.nil g.tb.ft⟩
theorem Gr.selfN (g : Gr B F H) : Gr ⟨.no, F, H, [], []⟩ F H := ⟨Ex.rf _, g.fh, fun _ _ e _ => e, fun _ _ e => .inl e, trivial, (fun a ha => by cases ha), fun _ hx => (nomatch hx), Tb.nil g.tb.ft⟩
theorem Gr.callN (g : Gr B F H) (c : Gr ⟨.no, F, H, [], []⟩ F' H') : Gr B F' H' := by
  have k : ∀ p o, H p = some o → H' p = some o := fun p o e => c.h0 p o e (by intro z; cases z)
  refine ⟨g.f0.tr c.f0, c.fh, fun a u e n => k a u (g.h0 a u e n), fun a u e => ?_, Rs.ok_keep g.ok fun a ha => ?_, fun a ha => ⟨?_, (g.ff a ha).2⟩, fun x hx => ?_, c.tb.ft, g.tb.hn, fun q hq => ?_, g.tb.ht⟩
  · rcases c.nw a u e with z | z
    · exact g.nw a u z
    · exact .inr (g.fresh z).2.1
  · obtain ⟨xs, e⟩ := Rs.ok_at g.ok a ha
    rw [e]; exact k a _ e
  · obtain ⟨xs, e⟩ := Rs.ok_at g.ok a ha
    exact c.nocome (by rw [e]; intro z; cases z) (g.ff a ha).1
  · obtain ⟨q1, q2, q3⟩ := g.hd x hx
    exact ⟨k _ _ q1, c.nocome (by rw [q1]; intro z; cases z) q2, q3⟩
  · obtain ⟨h1, h2, h3⟩ := g.tb.tk q hq
    exact ⟨TabS.keep h1 fun b o e _ => k b o e, c.nocome (by obtain ⟨ps, e1, _⟩ := h1; rw [e1]; intro z; cases z) h2, h3⟩
theorem Sat.keep (s : Sat K B F ρ σ H) (g : Gr B F' H') (e : Ex F F') (k : ∀ p o, H p = some o → F p = none → B.H0 p = none → H' p = some o ∧ F' p = none) : Sat K B F' ρ σ H' := by
  refine ⟨g, s.len, fun i t ht => ?_, s.dj, s.di, s.dc⟩
  have q := s.sl i t ht
  cases t with
  | u => trivial
  | t P q' => exact q
  | d x => obtain ⟨y, h1, h2⟩ := q; exact ⟨y, h1, h2.mono e⟩
  | o xs =>
    obtain ⟨p, vs, h1, h2, h3, h4, h5, h6⟩ := q
    obtain ⟨k1, k2⟩ := k p _ h2 h4 h5
    exact ⟨p, vs, h1, k1, h3.mono e, k2, h5, h6⟩
  | c p b =>
    obtain ⟨o, h2, h3, h4, h5, h6⟩ := q
    obtain ⟨k1, k2⟩ := k p _ h2 h4 h5
    exact ⟨o, k1, h3.mono e, k2, h5, h6⟩
theorem Sat.laidF (s : Sat K B F ρ σ H) (h : H p = none) (ho : ∀ ps, o ≠ .tbl ps := by intro _ z; cases z) : Sat K B (upd F p o) ρ σ (upd H p o) :=
  s.keep (s.toGr.laidF h ho) (Ex.up (s.toGr.fresh h).1) fun q vs e f _ => by
    have n : q ≠ p := ne_of_none e h
    rw [upd_ne n, upd_ne n]
    exact ⟨e, f⟩
theorem Sat.laidO (s : Sat K B F ρ σ H) (h : H p = none) (ho : ∀ ps, o ≠ .tbl ps := by intro _ z; cases z) : Sat K B F ρ σ (upd H p o) :=
  s.keep (s.toGr.laidO h ho) (Ex.rf _) fun q vs e f _ => by
    have n : q ≠ p := ne_of_none e h
    rw [upd_ne n]
    exact ⟨e, f⟩
theorem Sat.call (s : Sat K B F ρ σ H) (c : Gr ⟨B.rs, F, H, [], []⟩ F' H') : Sat K B F' ρ σ H' :=
  s.keep (s.toGr.call c) c.f0 fun q vs e f h0 => ⟨c.h0 q _ e (s.toGr.nofp h0), c.nocome (by rw [e]; intro z; cases z) f⟩
theorem Sat.callN (s : Sat K B F ρ σ H) (c : Gr ⟨.no, F, H, [], []⟩ F' H') : Sat K B F' ρ σ H' :=
  s.keep (s.toGr.callN c) c.f0 fun q vs e f h0 => ⟨c.h0 q _ e (by intro z; cases z), c.nocome (by rw [e]; intro z; cases z) f⟩
theorem set_cell {ρ : List Sl} {k i : Nat} {s : Sl} {p : Addr} {b : Ob} (hs : ∀ p b, s ≠ .c p b) (e : (ρ.set k s)[i]? = some (.c p b)) : ρ[i]? = some (.c p b) := by
  by_cases z : k = i
  · subst z
    rw [List.getElem?_set] at e
    simp only [if_true] at e
    split at e
    · exact absurd (Option.some.inj e) (hs p b)
    · cases e
  · rw [List.getElem?_set_ne z] at e; exact e
theorem set_own {ρ : List Sl} {k i : Nat} {s : Sl} {xs : List D} (hs : ∀ xs, s ≠ .o xs) (e : (ρ.set k s)[i]? = some (.o xs)) : ρ[i]? = some (.o xs) ∧ k ≠ i := by
  by_cases z : k = i
  · subst z
    rw [List.getElem?_set] at e
    simp only [if_true] at e
    split at e
    · exact absurd (Option.some.inj e) (hs xs)
    · cases e
  · rw [List.getElem?_set_ne z] at e; exact ⟨e, z⟩
theorem di_set {ρ : List Sl} {k : Nat} {s : Sl} (hs : ∀ p b, s ≠ .c p b) (h : ∀ (i j : Nat) (p : Addr) (b c : Ob), ρ[i]? = some (.c p b) → ρ[j]? = some (.c p c) → i = j) :
    ∀ (i j : Nat) (p : Addr) (b c : Ob), (ρ.set k s)[i]? = some (.c p b) → (ρ.set k s)[j]? = some (.c p c) → i = j := fun i j p b c hi hj => h i j p b c (set_cell hs hi) (set_cell hs hj)
theorem Sat.setD (s : Sat K B F ρ σ H) (i : Nat) {v : V} {d : D} (r : Rp K B.rs F v d) (hi : i < σ.length) : Sat K B F (ρ.set i (.d d)) (σ.set i (some v)) H := by
  refine ⟨s.toGr, by simp [s.len], fun j t ht => ?_, fun a b xs ys w ha hb ea eb => ?_, di_set (fun _ _ z => nomatch z) s.di, fun a j xs p b ha hj ea => ?_⟩
  · by_cases z : i = j
    · subst z
      by_cases hl : i < ρ.length
      · rw [List.getElem?_set_self hl] at ht
        cases ht
        rw [List.getElem?_set_self hi]
        exact ⟨v, rfl, r⟩
      · rw [List.getElem?_eq_none (by simp; omega)] at ht
        cases ht
    · rw [List.getElem?_set_ne z] at ht ⊢
      exact s.sl j t ht
  · obtain ⟨ha, na⟩ := set_own (by intro _ z; cases z) ha
    obtain ⟨hb, nb⟩ := set_own (by intro _ z; cases z) hb
    rw [List.getElem?_set_ne na] at ea
    rw [List.getElem?_set_ne nb] at eb
    exact s.dj a b xs ys w ha hb ea eb
  · obtain ⟨ha, na⟩ := set_own (by intro _ z; cases z) ha
    rw [List.getElem?_set_ne na] at ea
    exact s.dc a j xs p b ha (set_cell (by intro _ _ z; cases z) hj) ea
theorem Sat.setO (s : Sat K B F ρ σ H) (i : Nat) {p : Addr} {vs : List V} {xs : List D} (hH : H p = some (.lst vs)) (r : RpL K B.rs F vs xs) (hF : F p = none) (h0 : B.H0 p = none) (hh : ∀ x ∈ B.hl, x.1 ≠ p)
    (hn : NoOwn ρ σ p) (hi : i < σ.length) : Sat K B F (ρ.set i (.o xs)) (σ.set i (some (.ref p))) H := by
  refine ⟨s.toGr, by simp [s.len], fun j t ht => ?_, fun a b xs' ys w ha hb ea eb => ?_, di_set (fun _ _ z => nomatch z) s.di, fun a j xs' p' b ha hj ea => ?_⟩
  · by_cases z : i = j
    · subst z
      by_cases hl : i < ρ.length
      · rw [List.getElem?_set_self hl] at ht
        cases ht
        rw [List.getElem?_set_self hi]
        exact ⟨p, vs, rfl, hH, r, hF, h0, hh⟩
      · rw [List.getElem?_eq_none (by simp; omega)] at ht
        cases ht
    · rw [List.getElem?_set_ne z] at ht ⊢
      exact s.sl j t ht
  · by_cases za : i = a
    · by_cases zb : i = b
      · exact za.symm.trans zb
      · subst za
        rw [List.getElem?_set_self hi] at ea
        rw [List.getElem?_set_ne zb] at hb eb
        cases ea
        exact absurd eb (hn.o b ys hb)
    · rw [List.getElem?_set_ne za] at ha ea
      by_cases zb : i = b
      · subst zb
        rw [List.getElem?_set_self hi] at eb
        cases eb
        exact absurd ea (hn.o a xs' ha)
      · rw [List.getElem?_set_ne zb] at hb eb
        exact s.dj a b xs' ys w ha hb ea eb
  · have hj := set_cell (by intro _ _ z; cases z) hj
    by_cases za : i = a
    · subst za
      rw [List.getElem?_set_self hi] at ea
      cases ea
      exact hn.c j b hj
    · rw [List.getElem?_set_ne za] at ha ea
      exact s.dc a j xs' p' b ha hj ea
theorem Sat.writeO (s : Sat K B F ρ σ H) (i : Nat) {p : Addr} {vs : List V} {xs xs0 : List D} (hi : ρ[i]? = some (.o xs0)) (hv : σ[i]? = some (some (.ref p))) (r : RpL K B.rs F vs xs) (hF : F p = none) (h0 : B.H0 p = none) (hh : ∀ x ∈ B.hl, x.1 ≠ p) :
    Sat K B F (ρ.set i (.o xs)) σ (upd H p (.lst vs)) := by
  have hl : i < ρ.length := (List.getElem?_eq_some_iff.mp hi).1
  have w : NL (H p) := by
    obtain ⟨p2, vs2, g1, g2, _⟩ := s.sl i _ hi
    rw [hv] at g1
    cases g1
    exact NL.lst g2
  have ex : ∀ (a : Nat) (ys : List D), (ρ.set i (Sl.o xs))[a]? = some (Sl.o ys) → ∃ zs, ρ[a]? = some (Sl.o zs) := fun a ys h => by
    by_cases z : i = a
    · subst z; exact ⟨_, hi⟩
    · rw [List.getElem?_set_ne z] at h; exact ⟨_, h⟩
  refine ⟨s.toGr.write w hF h0 hh, by simp [s.len], fun j t ht => ?_, fun a b xs' ys w ha hb ea eb => ?_, di_set (fun _ _ z => nomatch z) s.di, fun a j xs' p' b ha hj ea => ?_⟩
  · by_cases z : i = j
    · subst z
      rw [List.getElem?_set_self hl] at ht
      cases ht
      exact ⟨p, vs, hv, upd_same, r, hF, h0, hh⟩
    · rw [List.getElem?_set_ne z] at ht
      have q := s.sl j t ht
      cases t with
      | u => trivial
      | t P q' => exact q
      | d x => exact q
      | o ys =>
        obtain ⟨p', vs', h1, h2, h3, h4, h5, h6⟩ := q
        have n : p' ≠ p := fun e => z (s.dj i j xs0 ys _ hi ht hv (by rw [h1, e]))
        exact ⟨p', vs', h1, by rw [upd_ne n]; exact h2, h3, h4, h5, h6⟩
      | c p' b =>
        obtain ⟨o', h2, h3, h4, h5, h6⟩ := q
        have n : p' ≠ p := fun e => s.dc i j xs0 p' b hi ht (by rw [e]; exact hv)
        exact ⟨o', by rw [upd_ne n]; exact h2, h3, h4, h5, h6⟩
  · obtain ⟨_, ha'⟩ := ex a _ ha
    obtain ⟨_, hb'⟩ := ex b _ hb
    exact s.dj a b _ _ w ha' hb' ea eb
  · obtain ⟨_, ha'⟩ := ex a _ ha
    exact s.dc a j _ p' b ha' (set_cell (by intro _ _ z; cases z) hj) ea
theorem Sat.freeze (s : Sat K B F ρ σ H) (i : Nat) {xs : List D} (hi : ρ[i]? = some (.o xs)) :
    ∃ p F', σ[i]? = some (some (.ref p)) ∧ Ex F F' ∧ Sat K B F' (ρ.set i (.d (.lst xs))) σ H ∧ Rp K B.rs F' (.ref p) (.lst xs) := by
  have hl : i < ρ.length := (List.getElem?_eq_some_iff.mp hi).1
  obtain ⟨p, vs, h1, h2, h3, h4, h5, h6⟩ := s.sl i _ hi
  refine ⟨p, upd F p (.lst vs), h1, Ex.up h4, ?_, .lst upd_same (h3.mono (Ex.up h4))⟩
  have g := s.toGr.know h2 h5 h4 h6
  have rp : Rp K B.rs (upd F p (.lst vs)) (.ref p) (.lst xs) := .lst upd_same (h3.mono (Ex.up h4))
  refine ⟨g, by simp [s.len], fun j t ht => ?_, fun a b xs' ys w ha hb ea eb => ?_, di_set (fun _ _ z => nomatch z) s.di, fun a j xs' p' b ha hj => ?_⟩
  · by_cases z : i = j
    · subst z
      rw [List.getElem?_set_self hl] at ht
      cases ht
      exact ⟨_, h1, rp⟩
    · rw [List.getElem?_set_ne z] at ht
      have q := s.sl j t ht
      cases t with
      | u => trivial
      | t P q' => exact q
      | d x => obtain ⟨y, e1, e2⟩ := q; exact ⟨y, e1, e2.mono (Ex.up h4)⟩
      | o ys =>
        obtain ⟨p', vs', e1, e2, e3, e4, e5, e6⟩ := q
        have n : p' ≠ p := fun e => z (s.dj i j xs ys _ hi ht h1 (by rw [e1, e]))
        exact ⟨p', vs', e1, e2, e3.mono (Ex.up h4), by rw [upd_ne n]; exact e4, e5, e6⟩
      | c p' b =>
        obtain ⟨o', e2, e3, e4, e5, e6⟩ := q
        have n : p' ≠ p := fun e => s.dc i j xs p' b hi ht (by rw [e]; exact h1)
        exact ⟨o', e2, e3.mono (Ex.up h4), by rw [upd_ne n]; exact e4, e5, e6⟩
  · obtain ⟨ha, _⟩ := set_own (by intro _ z; cases z) ha
    obtain ⟨hb, _⟩ := set_own (by intro _ z; cases z) hb
    exact s.dj a b xs' ys w ha hb ea eb
  · obtain ⟨ha, _⟩ := set_own (by intro _ z; cases z) ha
    exact s.dc a j xs' p' b ha (set_cell (by intro _ _ z; cases z) hj)
def wipeS (ρ : List Sl) : List Nat → List Sl
  | [] => ρ
  | v :: vs => (wipeS ρ vs).set v .u
theorem wipeS_length (ρ : List Sl) : ∀ vs, (wipeS ρ vs).length = ρ.length
  | [] => rfl
  | v :: vs => by unfold wipeS; rw [List.length_set, wipeS_length ρ vs]
theorem Sat.wipe (s : Sat K B F ρ σ H) : ∀ vs : List Nat, Sat K B F (wipeS ρ vs) (L2.wipe σ vs) H
  | [] => s
  | v :: vs => by
    have t := Sat.wipe s vs
    refine ⟨t.toGr, by unfold wipeS L2.wipe; rw [List.length_set, List.length_set]; exact t.len, fun j u hj => ?_, fun a b xs ys w ha hb ea eb => ?_, by unfold wipeS; exact di_set (fun _ _ z => nomatch z) t.di, fun a j xs p b ha hj => ?_⟩
    · unfold wipeS at hj
      unfold L2.wipe
      by_cases z : v = j
      · subst z
        rw [List.getElem?_set] at hj
        simp only [if_true] at hj
        split at hj
        · cases hj; trivial
        · cases hj
      · rw [List.getElem?_set_ne z] at hj ⊢
        exact t.sl j u hj
    · unfold wipeS at ha hb
      unfold L2.wipe at ea eb
      obtain ⟨ha, na⟩ := set_own (by intro _ z; cases z) ha
      obtain ⟨hb, nb⟩ := set_own (by intro _ z; cases z) hb
      rw [List.getElem?_set_ne na] at ea
      rw [List.getElem?_set_ne nb] at eb
      exact t.dj a b xs ys w ha hb ea eb
    · unfold wipeS at ha hj
      unfold L2.wipe
      obtain ⟨ha, na⟩ := set_own (by intro _ z; cases z) ha
      rw [List.getElem?_set_ne na]
      exact t.dc a j xs p b ha (set_cell (by intro _ _ z; cases z) hj)
theorem Sat.hold (s : Sat K B F ρ σ H) (hp : H p = none) (ho : ∀ ps, o ≠ .tbl ps := by intro _ z; cases z) : Sat K { B with hl := (p, o) :: B.hl } F ρ σ (upd H p o) := by
  have t := s.laidO (o := o) hp ho
  obtain ⟨n1, n2, n3⟩ := s.toGr.fresh hp
  refine ⟨⟨t.f0, t.fh, t.h0, t.nw, t.ok, t.ff, fun x hx => ?_, t.tb.ft, fun x hx => ?_, t.tb.tk, t.tb.ht⟩, t.len, fun j u hj => ?_, t.dj, t.di, t.dc⟩
  · rcases List.mem_cons.mp hx with e | hx
    · rw [e]; exact ⟨upd_same, n1, n2⟩
    · exact t.hd x hx
  · rcases List.mem_cons.mp hx with e | hx
    · rw [e]; exact ho
    · exact t.tb.hn x hx
  · have q := s.sl j u hj
    cases u with
    | u => trivial
    | t P q' => exact q
    | d x => exact q
    | o xs =>
      obtain ⟨p', vs, h1, h2, h3, h4, h5, h6⟩ := q
      have n : p' ≠ p := ne_of_none h2 hp
      refine ⟨p', vs, h1, by rw [upd_ne n]; exact h2, h3, h4, h5, fun x hx => ?_⟩
      rcases List.mem_cons.mp hx with e | hx
      · rw [e]; exact n.symm
      · exact h6 x hx
    | c p' b =>
      obtain ⟨o', h2, h3, h4, h5, h6⟩ := q
      have n : p' ≠ p := ne_of_none h2 hp
      refine ⟨o', by rw [upd_ne n]; exact h2, h3, h4, h5, fun x hx => ?_⟩
      rcases List.mem_cons.mp hx with e | hx
      · rw [e]; exact n.symm
      · exact h6 x hx
theorem Gr.less {hs : List (Addr × HO)} (g : Gr B F H) (h : ∀ x ∈ hs, x ∈ B.hl) : Gr { B with hl := hs } F H := ⟨g.f0, g.fh, g.h0, g.nw, g.ok, g.ff, fun x hx => g.hd x (h x hx), g.tb.ft, fun x hx => g.tb.hn x (h x hx), g.tb.tk, g.tb.ht⟩
theorem Sat.heldW {o' : HO} {hs : List (Addr × HO)} (hb : B.hl = (p, o) :: hs) (nd : ∀ x ∈ hs, x.1 ≠ p) (s : Sat K B F ρ σ H) (w : NL (some o)) (ho : ∀ ps, o' ≠ .tbl ps) : Sat K { B with hl := (p, o') :: hs } F ρ σ (upd H p o') := by
  obtain ⟨q1, q2, q3⟩ := s.hd (p, o) (by rw [hb]; exact List.mem_cons_self)
  have g : Gr { B with hl := hs } F H := s.toGr.less fun x hx => by rw [hb]; exact List.mem_cons_of_mem _ hx
  have g2 := g.write (o := o') (by rw [q1]; exact w) q2 q3 nd
  refine ⟨⟨g2.f0, g2.fh, g2.h0, g2.nw, g2.ok, g2.ff, fun x hx => ?_, g2.tb.ft, fun x hx => ?_, g2.tb.tk, g2.tb.ht⟩, s.len, fun j u hj => ?_, s.dj, s.di, s.dc⟩
  · rcases List.mem_cons.mp hx with e | hx
    · rw [e]; exact ⟨upd_same, q2, q3⟩
    · exact g2.hd x hx
  · rcases List.mem_cons.mp hx with e | hx
    · rw [e]; exact ho
    · exact g2.tb.hn x hx
  · have q := s.sl j u hj
    cases u with
    | u => trivial
    | t P q' => exact q
    | d x => exact q
    | o xs =>
      obtain ⟨p', vs, h1, h2, h3, h4, h5, h6⟩ := q
      have n : p ≠ p' := h6 (p, o) (by rw [hb]; exact List.mem_cons_self)
      refine ⟨p', vs, h1, by rw [upd_ne n.symm]; exact h2, h3, h4, h5, fun x hx => ?_⟩
      rcases List.mem_cons.mp hx with e | hx
      · rw [e]; exact n
      · exact h6 x (by rw [hb]; exact List.mem_cons_of_mem _ hx)
    | c p' b =>
      obtain ⟨o'', h2, h3, h4, h5, h6⟩ := q
      have n : p ≠ p' := h6 (p, o) (by rw [hb]; exact List.mem_cons_self)
      refine ⟨o'', by rw [upd_ne n.symm]; exact h2, h3, h4, h5, fun x hx => ?_⟩
      rcases List.mem_cons.mp hx with e | hx
      · rw [e]; exact n
      · exact h6 x (by rw [hb]; exact List.mem_cons_of_mem _ hx)
theorem Sat.less {hs : List (Addr × HO)} (s : Sat K B F ρ σ H) (h : ∀ x ∈ hs, x ∈ B.hl) : Sat K { B with hl := hs } F ρ σ H := by
  refine ⟨s.toGr.less h, s.len, fun j u hj => ?_, s.dj, s.di, s.dc⟩
  have q := s.sl j u hj
  cases u with
  | u => trivial
  | t P q' => exact q
  | d x => exact q
  | o xs =>
    obtain ⟨p', vs, h1, h2, h3, h4, h5, h6⟩ := q
    exact ⟨p', vs, h1, h2, h3, h4, h5, fun x hx => h6 x (h x hx)⟩
  | c p' b =>
    obtain ⟨o', h2, h3, h4, h5, h6⟩ := q
    exact ⟨o', h2, h3, h4, h5, fun x hx => h6 x (h x hx)⟩
theorem Sat.held (s : Sat K B F ρ σ H) (h : (p, o) ∈ B.hl) : H p = some o ∧ F p = none ∧ B.H0 p = none ∧ NoOwn ρ σ p := by
  obtain ⟨q1, q2, q3⟩ := s.hd (p, o) h
  refine ⟨q1, q2, q3, fun j xs hj e => ?_, fun j b hj => ?_⟩
  · obtain ⟨p', vs, h1, h2, h3, h4, h5, h6⟩ := s.sl j _ hj
    rw [h1] at e
    cases e
    exact h6 (p, o) h rfl
  · obtain ⟨o', h2, h3, h4, h5, h6⟩ := s.sl j _ hj
    exact h6 (p, o) h rfl
theorem Sat.letgo {hs : List (Addr × HO)} (hb : B.hl = (p, o) :: hs) (s : Sat K B F ρ σ H) : Sat K { B with hl := hs } F ρ σ H ∧ H p = some o ∧ F p = none ∧ B.H0 p = none ∧ NoOwn ρ σ p :=
  ⟨s.less fun x hx => by rw [hb]; exact List.mem_cons_of_mem _ hx, s.held (by rw [hb]; exact List.mem_cons_self)⟩
theorem Sat.holdAt (s : Sat K B F ρ σ H) {vs : List V} (h1 : H p = some (.lst vs)) (h2 : F p = none) (h3 : B.H0 p = none) (hn : NoOwn ρ σ p) : Sat K { B with hl := (p, .lst vs) :: B.hl } F ρ σ H := by
  refine ⟨⟨s.f0, s.fh, s.h0, s.nw, s.ok, s.ff, fun x hx => ?_, s.tb.ft, fun x hx => ?_, s.tb.tk, s.tb.ht⟩, s.len, fun j u hj => ?_, s.dj, s.di, s.dc⟩
  · rcases List.mem_cons.mp hx with e | hx
    · rw [e]; exact ⟨h1, h2, h3⟩
    · exact s.hd x hx
  · rcases List.mem_cons.mp hx with e | hx
    · rw [e]; intro _ z; cases z
    · exact s.tb.hn x hx
  · have q := s.sl j u hj
    cases u with
    | u => trivial
    | t P q' => exact q
    | d x => exact q
    | o xs =>
      obtain ⟨p', ws, g1, g2, g3, g4, g5, g6⟩ := q
      refine ⟨p', ws, g1, g2, g3, g4, g5, fun x hx => ?_⟩
      rcases List.mem_cons.mp hx with e | hx
      · rw [e]; exact fun z => hn.o j xs hj (by rw [g1, ← z])
      · exact g6 x hx
    | c p' b =>
      obtain ⟨o', g2, g3, g4, g5, g6⟩ := q
      refine ⟨o', g2, g3, g4, g5, fun x hx => ?_⟩
      rcases List.mem_cons.mp hx with e | hx
      · rw [e]; exact fun z => hn.c j b (by rw [hj]; exact congrArg (fun a => some (Sl.c a b)) z.symm)
      · exact g6 x hx
theorem Sat.know (s : Sat K B F ρ σ H) (hH : H p = some o) (h0 : B.H0 p = none) (hF : F p = none) (hh : ∀ x ∈ B.hl, x.1 ≠ p) (hn : NoOwn ρ σ p) (ho : ∀ ps, o ≠ .tbl ps := by intro _ z; cases z) : Sat K B (upd F p o) ρ σ H := by
  refine ⟨s.toGr.know hH h0 hF hh ho, s.len, fun j u hj => ?_, s.dj, s.di, s.dc⟩
  have q := s.sl j u hj
  cases u with
  | u => trivial
  | t P q' => exact q
  | d x => obtain ⟨y, e1, e2⟩ := q; exact ⟨y, e1, e2.mono (Ex.up hF)⟩
  | o xs =>
    obtain ⟨p', vs, h1, h2, h3, h4, h5, h6⟩ := q
    have n : p' ≠ p := fun e => hn.o j xs hj (by rw [h1, e])
    exact ⟨p', vs, h1, h2, h3.mono (Ex.up hF), by rw [upd_ne n]; exact h4, h5, h6⟩
  | c p' b =>
    obtain ⟨o', h2, h3, h4, h5, h6⟩ := q
    have n : p' ≠ p := fun e => hn.c j b (by rw [hj, e])
    exact ⟨o', h2, h3.mono (Ex.up hF), by rw [upd_ne n]; exact h4, h5, h6⟩
theorem Sat.knowL (s : Sat K B F ρ σ H) {vs : List V} (hH : H p = some (.lst vs)) (h0 : B.H0 p = none) (hF : F p = none) (hh : ∀ x ∈ B.hl, x.1 ≠ p) (hn : NoOwn ρ σ p) : Sat K B (upd F p (.lst vs)) ρ σ H := s.know hH h0 hF hh hn
theorem Sat.newC (s : Sat K B F ρ σ H) {b : Ob} (hH : H p = some o) (r : ObR K B.rs F o b) (hF : F p = none) (h0 : B.H0 p = none) (hh : ∀ x ∈ B.hl, x.1 ≠ p) (hn : NoOwn ρ σ p) : Sat K B F (ρ ++ [.c p b]) σ H := by
  have at_ : ∀ (i : Nat) (t : Sl), (ρ ++ [Sl.c p b])[i]? = some t → ρ[i]? = some t ∨ (i = ρ.length ∧ t = .c p b) := fun i t h => by
    by_cases hl : i < ρ.length
    · rw [List.getElem?_append_left hl] at h; exact .inl h
    · rw [List.getElem?_append_right (by omega)] at h
      by_cases z : i - ρ.length = 0
      · rw [z] at h
        exact .inr ⟨by omega, (Option.some.inj h).symm⟩
      · rw [List.getElem?_eq_none (by simp; omega)] at h; cases h
  refine ⟨s.toGr, by simp; have := s.len; omega, fun i t ht => ?_, fun i j xs ys v hi hj => ?_, fun i j p' b' c' hi hj => ?_, fun i j xs p' b' hi hj => ?_⟩
  · rcases at_ i t ht with h | ⟨_, rfl⟩
    · exact s.sl i t h
    · exact ⟨o, hH, r, hF, h0, hh⟩
  · rcases at_ i _ hi with h | ⟨_, z⟩
    · rcases at_ j _ hj with h' | ⟨_, z⟩
      · exact s.dj i j xs ys v h h'
      · cases z
    · cases z
  · rcases at_ i _ hi with h | ⟨e, z⟩
    · rcases at_ j _ hj with h' | ⟨_, z⟩
      · exact s.di i j p' b' c' h h'
      · cases z; exact absurd h (hn.c i _)
    · rcases at_ j _ hj with h' | ⟨e', z'⟩
      · cases z; exact absurd h' (hn.c j _)
      · rw [e, e']
  · rcases at_ i _ hi with h | ⟨_, z⟩
    · rcases at_ j _ hj with h' | ⟨_, z⟩
      · exact s.dc i j xs p' b' h h'
      · cases z; exact hn.o i xs h
    · cases z
theorem Sat.cell (s : Sat K B F ρ σ H) {i : Nat} {b : Ob} (hi : ρ[i]? = some (.c p b)) : ∃ o, H p = some o ∧ ObR K B.rs F o b ∧ F p = none ∧ B.H0 p = none ∧ ∀ x ∈ B.hl, x.1 ≠ p := s.sl i _ hi
theorem Sat.writeC (s : Sat K B F ρ σ H) (i : Nat) {b b0 : Ob} (hi : ρ[i]? = some (.c p b0)) (r : ObR K B.rs F o b) : Sat K B F (ρ.set i (.c p b)) σ (upd H p o) := by
  have hl : i < ρ.length := (List.getElem?_eq_some_iff.mp hi).1
  obtain ⟨o0, g1, g2, hF, h0, hh⟩ := s.cell hi
  have cel : ∀ (a : Nat) p' b', (ρ.set i (.c p b))[a]? = some (.c p' b') → ∃ b2, ρ[a]? = some (.c p' b2) := fun a p' b' e => by
    by_cases z : i = a
    · subst z
      rw [List.getElem?_set_self hl] at e
      cases e
      exact ⟨_, hi⟩
    · rw [List.getElem?_set_ne z] at e; exact ⟨_, e⟩
  refine ⟨s.toGr.write (by rw [g1]; exact g2.nl) hF h0 hh, by simp [s.len], fun j t ht => ?_, fun a b' ys zs w ha hb ea eb => ?_, fun a j p' b1 c1 ha hj => ?_, fun a j xs p' b1 ha hj => ?_⟩
  · by_cases z : i = j
    · subst z
      rw [List.getElem?_set_self hl] at ht
      cases ht
      exact ⟨o, upd_same, r, hF, h0, hh⟩
    · rw [List.getElem?_set_ne z] at ht
      have q := s.sl j t ht
      cases t with
      | u => trivial
      | t P q' => exact q
      | d x => exact q
      | o ys =>
        obtain ⟨p', vs', h1, h2, h3, h4, h5, h6⟩ := q
        have n : p' ≠ p := fun e => s.dc j i ys p b0 ht hi (by rw [h1, e])
        exact ⟨p', vs', h1, by rw [upd_ne n]; exact h2, h3, h4, h5, h6⟩
      | c p' b' =>
        obtain ⟨o', h2, h3, h4, h5, h6⟩ := q
        have n : p' ≠ p := fun e => z (s.di i j p b0 b' hi (by rw [ht, e]))
        exact ⟨o', by rw [upd_ne n]; exact h2, h3, h4, h5, h6⟩
  · obtain ⟨ha, _⟩ := set_own (by intro _ z; cases z) ha
    obtain ⟨hb, _⟩ := set_own (by intro _ z; cases z) hb
    exact s.dj a b' ys zs w ha hb ea eb
  · obtain ⟨_, ha'⟩ := cel a _ _ ha
    obtain ⟨_, hj'⟩ := cel j _ _ hj
    exact s.di a j p' _ _ ha' hj'
  · obtain ⟨ha, _⟩ := set_own (by intro _ z; cases z) ha
    obtain ⟨_, hj'⟩ := cel j _ _ hj
    exact s.dc a j xs p' _ ha hj'
theorem Rv.mono {v : V} {d : Rx} (r : Rv K B F σ v d) (e : Ex F F') : Rv K B F' σ v d := by
  cases d with
  | d x => exact Rp.mono e r
  | own i => exact r
theorem Rq.of {v : V} {d : D} (r : Rp K B.rs F v d) : Rq K B F H v d := .inl r
theorem Rq.lst {v : V} {xs : List D} (r : Rq K B F H v (.lst xs)) (e : Ex F H) : ∃ p vs, v = .ref p ∧ H p = some (.lst vs) ∧ RpL K B.rs F vs xs := by
  rcases r with r | ⟨p, vs, ys, h1, h2, h3, h4⟩
  · cases r with
    | lst h r => exact ⟨_, _, rfl, e _ _ h, r⟩
  · cases h2
    exact ⟨p, vs, h1, h3, h4⟩
theorem Rq.tup {v : V} {xs : List D} (r : Rq K B F H v (.tup xs)) : ∃ p vs, v = .ref p ∧ SqT K F p vs ∧ RpL K B.rs F vs xs := by
  rcases r with r | ⟨p, vs, ys, h1, h2, h3, h4⟩
  · cases r with
    | tup h r => exact ⟨_, _, rfl, h, r⟩
  · cases h2
theorem Rq.notL {v : V} {d : D} (r : Rq K B F H v d) (h : ∀ xs, d ≠ .lst xs) : Rp K B.rs F v d := by
  rcases r with r | ⟨p, vs, ys, h1, h2, h3, h4⟩
  · exact r
  · exact absurd h2 (h _)
theorem Rq.int {v : V} {i : Int} (r : Rq K B F H v (.int i)) : v = .int i := by
  cases r.notL (fun _ z => nomatch z)
  rfl
theorem Rq.bl {v : V} {i : Bool} (r : Rq K B F H v (.bl i)) : v = .bl i := by
  cases r.notL (fun _ z => nomatch z)
  rfl
theorem Rq.non {v : V} (r : Rq K B F H v .non) : v = .non := by
  cases r.notL (fun _ z => nomatch z)
  rfl
theorem Rq.str {v : V} {i : Str} (r : Rq K B F H v (.str i)) : v = .str i ∧ SOk i := by
  cases r.notL (fun _ z => nomatch z) with
  | str _ h => exact ⟨rfl, h⟩
def val (ρ : List Sl) (r : Rx) (k : D → Prop) : Prop := match r with
  | .d x => k x
  | .own i => match ρ[i]? with
    | some (.o xs) => k (.lst xs)
    | _ => False
theorem Rv.val {v : V} {r : Rx} {k : D → Prop} (s : Sat K B F ρ σ H) (h : Rv K B F σ v r) (q : val ρ r k) : ∃ d, k d ∧ Rq K B F H v d := by
  cases r with
  | d x => exact ⟨x, q, .inl h⟩
  | own i =>
    have h' : σ[i]? = some (some v) := h
    unfold DL.val at q
    dsimp only at q
    split at q
    · rename_i xs e
      obtain ⟨p, vs, h1, h2, h3, h4, h5, h6⟩ := s.sl i _ e
      rw [h1] at h'
      cases h'
      exact ⟨_, q, .inr ⟨p, vs, xs, rfl, rfl, h2, h3⟩⟩
    · exact q.elim
def frz (ρ : List Sl) (r : Rx) (k : D → List Sl → Prop) : Prop := match r with
  | .d x => k x ρ
  | .own i => match ρ[i]? with
    | some (.o xs) => k (.lst xs) (ρ.set i (.d (.lst xs)))
    | _ => False
theorem Rv.frz {v : V} {r : Rx} {k : D → List Sl → Prop} (s : Sat K B F ρ σ H) (h : Rv K B F σ v r) (q : frz ρ r k) : ∃ d ρ' F', k d ρ' ∧ Ex F F' ∧ Sat K B F' ρ' σ H ∧ Rp K B.rs F' v d := by
  cases r with
  | d x => exact ⟨x, ρ, F, q, Ex.rf _, s, h⟩
  | own i =>
    have h' : σ[i]? = some (some v) := h
    unfold DL.frz at q
    dsimp only at q
    split at q
    · rename_i xs e
      obtain ⟨p, F', h1, h2, h3, h4⟩ := s.freeze i e
      rw [h1] at h'
      cases h'
      exact ⟨_, _, F', q, h2, h3, h4⟩
    · exact q.elim
end
@[simp] theorem val_d {ρ : List Sl} {x : D} {k : D → Prop} : val ρ (.d x) k = k x := rfl
@[simp] theorem frz_d {ρ : List Sl} {x : D} {k : D → List Sl → Prop} : frz ρ (.d x) k = k x ρ := rfl
end DL
namespace DL
open PySem PySem.Spec PyProof.Rows L2

abbrev Kn := Rx → List Sl → Prop
abbrev Kx := Addr → Option (Str × D) → Prop
abbrev TD := List Sl → Kn → Kx → Prop
abbrev TDt := List Sl → (Bool → List Sl → Prop) → Kx → Prop
abbrev TDa := List Sl → (List Rx → List Sl → Prop) → Kx → Prop

def XOk (K : PySem.W.Frag) (B : Bs) (F H : Hp) (c : Option Addr) : Option (Str × D) → Prop
  | none => c = none
  | some (f, d) => ∃ dd v, c = some dd ∧ H dd = some (.xd [(f, v)]) ∧ Rp K B.rs F v d
section
variable (K : PySem.W.Frag) (E : XK) (B : Bs) (F : Hp) (σ : L2.St)
def nV (k : Kn) (Q : VK) : Prop := ∀ r ρ' F' v H', k r ρ' → Ex F F' → Sat K B F' ρ' σ H' → Rv K B F' σ v r → Q v H'
def nT (k : Bool → List Sl → Prop) (Q : Bool → Hp → Prop) : Prop := ∀ b ρ' F' H', k b ρ' → Ex F F' → Sat K B F' ρ' σ H' → Q b H'
def nA (k : List Rx → List Sl → Prop) (Q : List V → Hp → Prop) : Prop := ∀ rs ρ' F' vs H', k rs ρ' → Ex F F' → Sat K B F' ρ' σ H' → Paired (Rv K B F' σ) vs rs → Q vs H'
def nX (x : Kx) : Prop := ∀ C m F' c H', x C m → Ex F F' → Gr B F' H' → XOk K B F' H' c m → E (.ref C) c H'
end
section
variable {K : PySem.W.Frag} {E : XK} {B : Bs} {F F' : Hp} {σ : L2.St}
theorem nV.mono {k : Kn} {Q : VK} (h : nV K B F σ k Q) (e : Ex F F') : nV K B F' σ k Q := fun r ρ' G v H' q e' => h r ρ' G v H' q (e.tr e')
theorem nT.mono {k : Bool → List Sl → Prop} {Q : Bool → Hp → Prop} (h : nT K B F σ k Q) (e : Ex F F') : nT K B F' σ k Q := fun r ρ' G H' q e' => h r ρ' G H' q (e.tr e')
theorem nA.mono {k : List Rx → List Sl → Prop} {Q : List V → Hp → Prop} (h : nA K B F σ k Q) (e : Ex F F') : nA K B F' σ k Q := fun r ρ' G v H' q e' => h r ρ' G v H' q (e.tr e')
theorem nX.mono {x : Kx} (h : nX K E B F x) (e : Ex F F') : nX K E B F' x := fun C m G c H' q e' => h C m G c H' q (e.tr e')
end
def emE (K : PySem.W.Frag) (E : XK) (t : TD) : TE := fun σ H Q => ∃ B F ρ k x, Sat K B F ρ σ H ∧ t ρ k x ∧ nV K B F σ k Q ∧ nX K E B F x
def emT (K : PySem.W.Frag) (E : XK) (t : TDt) : TT := fun σ H Q => ∃ B F ρ k x, Sat K B F ρ σ H ∧ t ρ k x ∧ nT K B F σ k Q ∧ nX K E B F x
def emA (K : PySem.W.Frag) (E : XK) (t : TDa) : TA := fun σ H Q => ∃ B F ρ k x, Sat K B F ρ σ H ∧ t ρ k x ∧ nA K B F σ k Q ∧ nX K E B F x
def DE (X : Cx) (E : XK) (e : Expr) (t : TD) : Prop := PE X e (emE X.K E t)
def DT (X : Cx) (E : XK) (e : Expr) (t : TDt) : Prop := PT X e (emT X.K E t)
def DW (X : Cx) (E : XK) (e : Expr) (t : TDt) : Prop := PW X e (emT X.K E t)
def DA (X : Cx) (E : XK) (es : List Expr) (t : TDa) : Prop := PA X es (emA X.K E t)

section
variable {X : Cx} {E : XK} {e : Expr} {es : List Expr}
theorem PE.imp {t t' : TE} (h : PE X e t) (i : ∀ σ H Q, t' σ H Q → t σ H Q) : PE X e t' := ⟨fun pins s σ H Q I q => h.run pins s σ H Q I (i σ H Q q)⟩
theorem PT.imp {t t' : TT} (h : PT X e t) (i : ∀ σ H Q, t' σ H Q → t σ H Q) : PT X e t' := ⟨fun pins s σ H Q I q => h.run pins s σ H Q I (i σ H Q q)⟩
theorem PW.imp {t t' : TT} (h : PW X e t) (i : ∀ σ H Q, t' σ H Q → t σ H Q) : PW X e t' := ⟨fun w pins s σ H Q I q => h.run w pins s σ H Q I (i σ H Q q)⟩
theorem PA.imp {t t' : TA} (h : PA X es t) (i : ∀ σ H Q, t' σ H Q → t σ H Q) : PA X es t' := ⟨fun p pins s σ H Q I q => h.run p pins s σ H Q I (i σ H Q q)⟩
theorem PS.imp {st : Stmt} {t t' : TS} (h : PS X st t) (i : ∀ D σ H, t' D σ H → t D σ H) : PS X st t' := ⟨fun pins s σ H Q I q => h.run pins s σ H Q I (i Q σ H q)⟩
theorem PSs.imp {st : List Stmt} {t t' : TS} (h : PSs X st t) (i : ∀ D σ H, t' D σ H → t D σ H) : PSs X st t' := ⟨fun pins s σ H Q I q => h.run pins s σ H Q I (i Q σ H q)⟩
theorem de_of {te : TE} {t : TD} (h : PE X e te) (i : ∀ B F ρ σ H k x Q, Sat X.K B F ρ σ H → t ρ k x → nV X.K B F σ k Q → nX X.K E B F x → te σ H Q) : DE X E e t :=
  PE.imp h fun σ H Q ⟨B, F, ρ, k, x, S, q, n, m⟩ => i B F ρ σ H k x Q S q n m
theorem dt_of {te : TT} {t : TDt} (h : PT X e te) (i : ∀ B F ρ σ H k x Q, Sat X.K B F ρ σ H → t ρ k x → nT X.K B F σ k Q → nX X.K E B F x → te σ H Q) : DT X E e t :=
  PT.imp h fun σ H Q ⟨B, F, ρ, k, x, S, q, n, m⟩ => i B F ρ σ H k x Q S q n m
theorem da_of {te : TA} {t : TDa} (h : PA X es te) (i : ∀ B F ρ σ H k x Q, Sat X.K B F ρ σ H → t ρ k x → nA X.K B F σ k Q → nX X.K E B F x → te σ H Q) : DA X E es t :=
  PA.imp h fun σ H Q ⟨B, F, ρ, k, x, S, q, n, m⟩ => i B F ρ σ H k x Q S q n m

@[simp ↓] def dVar (i : Nat) : TD := fun ρ k _ => match ρ[i]? with
  | some (.d d) => k (.d d) ρ
  | some (.o _) => k (.own i) ρ
  | _ => False
@[simp ↓] def dC (d : D) : TD := fun ρ k _ => k (.d d) ρ
theorem de_var {i : Nat} (h : PE X e (tVar i)) : DE X E e (dVar i) := by
  refine de_of h fun B F ρ σ H k x Q S q n m => ?_
  unfold dVar at q
  split at q
  · rename_i d e
    obtain ⟨y, h1, h2⟩ := S.sl i _ e
    exact ⟨y, h1, n _ _ _ _ _ q (Ex.rf _) S h2⟩
  · rename_i xs e
    obtain ⟨p, vs, h1, h2, h3, h4, h5, h6⟩ := S.sl i _ e
    exact ⟨_, h1, n _ _ _ _ _ q (Ex.rf _) S h1⟩
  · exact q.elim
theorem de_c {v : V} {d : D} (h : PE X e (tC v)) (r : ∀ rs F, Rp X.K rs F v d) : DE X E e (dC d) :=
  de_of h fun B F ρ σ H k x Q S q n m => n _ _ _ _ _ q (Ex.rf _) S (r _ _)
theorem sok_of {s : Str} (h : s.cps.all (· < 0x110000) = true) : SOk s := fun c hc => by
  have h' := Array.all_eq_true_iff_forall_mem.mp h c (by simpa using hc)
  simpa using h'
theorem de_int {i : Int} {j : Nat} {pos : Pos} : DE X E (.Constant (.int i) j pos) (dC (.int i)) := de_c pe_int fun _ _ => .int i
theorem de_bl {b : Bool} {j : Nat} {pos : Pos} : DE X E (.Constant (.bool b) j pos) (dC (.bl b)) := de_c pe_bl fun _ _ => .bl b
theorem de_non {j : Nat} {pos : Pos} : DE X E (.Constant .none j pos) (dC .non) := de_c pe_non fun _ _ => .non
theorem de_str {s : Str} {j : Nat} {pos : Pos} (h : s.cps.all (· < 0x110000) = true := by decide +kernel) : DE X E (.Constant (.str s) j pos) (dC (.str s)) := de_c pe_str fun _ _ => .str s (sok_of h)
theorem de_gl {x : Str} {v : V} {u : Value} {d : D} {pos : Pos} (hg : Gl X x) (hm : X.mg x = some u) (r : RelV v u) (h : ∀ rs F, Rp X.K rs F v d) (hd : (x == ("__debug__" : Str)) = false := by decide) : DE X E (.Name x pos) (dC d) := de_c (pe_glob hg hm r hd) h

def OpD (K : PySem.W.Frag) (r : R2) (rd : D → D → (D → Prop) → Prop) : Prop :=
  ∀ B F ρ σ H v w a b k Q, Sat K B F ρ σ H → Rq K B F H v a → Rq K B F H w b → rd a b k → (∀ d F' u H', k d → Ex F F' → Sat K B F' ρ σ H' → Rp K B.rs F' u d → Q u H') → r v w H Q
@[simp ↓] def dOp (rd : D → D → (D → Prop) → Prop) (ta tb : TD) : TD := fun ρ k x => ta ρ (fun a ρ1 => tb ρ1 (fun b ρ2 => val ρ2 a fun a' => val ρ2 b fun b' => rd a' b' fun d => k (.d d) ρ2) x) x
variable {a b c : Expr} {ta tb tc : TD} {pos : Pos}
theorem emop {K : PySem.W.Frag} {r : R2} {rd : D → D → (D → Prop) → Prop} (h : OpD K r rd) {B : Bs} {F : Hp} {ρ : List Sl} {σ : L2.St} {H : Hp} {k : Kn} {x : Kx} {Q : VK}
    (S : Sat K B F ρ σ H) (q : dOp rd ta tb ρ k x) (n : nV K B F σ k Q) (m : nX K E B F x) : tOp r (emE K E ta) (emE K E tb) σ H Q := by
  refine ⟨B, F, ρ, _, x, S, q, fun ra ρ1 F1 v H1 q1 e1 S1 r1 => ?_, m⟩
  refine ⟨B, F1, ρ1, _, x, S1, q1, fun rb ρ2 F2 w H2 q2 e2 S2 r2 => ?_, m.mono e1⟩
  obtain ⟨a', q3, r3⟩ := Rv.val S2 (r1.mono e2) q2
  obtain ⟨b', q4, r4⟩ := Rv.val S2 r2 q3
  exact h B F2 ρ2 σ H2 v w a' b' _ Q S2 r3 r4 q4 fun d F' u H' q5 e5 S5 r5 => n _ _ _ _ _ q5 ((e1.tr e2).tr e5) S5 r5
theorem de_op {op : Operator} {r : R2} {rd : D → D → (D → Prop) → Prop} (ho : OpR X (binaryOp op) r) (hd : OpD X.K r rd) (ha : DE X E a ta) (hb : DE X E b tb) : DE X E (.BinOp a op b pos) (dOp rd ta tb) :=
  de_of (pe_op ho ha hb) fun B F ρ σ H k x Q S q n m => emop hd S q n m
theorem de_cmp {op : CmpOp} {r : R2} {rd : D → D → (D → Prop) → Prop} (ho : OpR X (compareOp op) r) (hd : OpD X.K r rd) (ha : DE X E a ta) (hb : DE X E b tb) (hm : behindInMarks op b = false) : DE X E (.Compare a [op] [b] pos) (dOp rd ta tb) :=
  de_of (pe_cmpR ho ha hb hm) fun B F ρ σ H k x Q S q n m => emop hd S q n m
@[simp ↓] def dTst (t : TD) : TDt := fun ρ k x => t ρ (fun r ρ' => ∃ b, r = .d (.bl b) ∧ k b ρ') x
theorem nTst {K : PySem.W.Frag} {B : Bs} {F : Hp} {σ : L2.St} {k : Bool → List Sl → Prop} {Q : Bool → Hp → Prop} (n : nT K B F σ k Q) :
    nV K B F σ (fun r ρ' => ∃ b, r = .d (.bl b) ∧ k b ρ') (fun v H' => ∃ b, v = .bl b ∧ Q b H') := fun r ρ' F' v H' ⟨b, e, q⟩ ex S rv => by
  subst e
  cases (show Rp K B.rs F' v (.bl b) from rv)
  exact ⟨b, rfl, n b ρ' F' H' q ex S⟩
theorem dt_cmp {op : CmpOp} {r : R2} {rd : D → D → (D → Prop) → Prop} (ho : OpR X (compareOp op) r) (hd : OpD X.K r rd) (ha : DE X E a ta) (hb : DE X E b tb) (hm : behindInMarks op b = false) : DT X E (.Compare a [op] [b] pos) (dTst (dOp rd ta tb)) :=
  dt_of (pt_cmpR ho ha hb hm) fun B F ρ σ H k x Q S q n m => emop hd S q (nTst n) m
theorem dt_val {t : TD} (h : DE X E e t) (he : ∀ whole, isTrue e X.env whole = (do let v ← whole; standAt e.pos; holding [v] (truthy v)) := by intro _; rfl) : DT X E e (dTst t) :=
  dt_of (pt_val h he) fun B F ρ σ H k x Q S q n m => ⟨B, F, ρ, _, x, S, q, nTst n, m⟩
@[simp ↓] theorem ex_rbl {c : Bool} {P : Bool → Prop} : (∃ b, Rx.d (D.bl c) = Rx.d (D.bl b) ∧ P b) = P c := propext ⟨fun ⟨b, e, h⟩ => by cases e; exact h, fun h => ⟨c, rfl, h⟩⟩
@[simp ↓] theorem ex_bl {c : Bool} {P : Bool → Prop} : (∃ b, D.bl c = D.bl b ∧ P b) = P c := propext ⟨fun ⟨b, e, h⟩ => by cases e; exact h, fun h => ⟨c, rfl, h⟩⟩
@[simp ↓] theorem ex_int {c : Int} {P : Int → Prop} : (∃ b, Rx.d (D.int c) = Rx.d (D.int b) ∧ P b) = P c := propext ⟨fun ⟨b, e, h⟩ => by cases e; exact h, fun h => ⟨c, rfl, h⟩⟩
@[simp ↓] theorem ex_str {c : Str} {P : Str → Prop} : (∃ b, Rx.d (D.str c) = Rx.d (D.str b) ∧ P b) = P c := propext ⟨fun ⟨b, e, h⟩ => by cases e; exact h, fun h => ⟨c, rfl, h⟩⟩
@[simp ↓] def truD (d : D) (k : Bool → Prop) : Prop := match d with
  | .non => k false
  | .bl b => k b
  | .int i => k (i != 0)
  | .str s => s.length ≤ 16777216 ∧ k ((s.length : Int) != 0)
  | .lst xs => k (!xs.isEmpty)
  | .tup xs => k (!xs.isEmpty)
  | _ => False
theorem RpL.isEmpty {K : PySem.W.Frag} {rs : Rs} {F : Hp} {vs : List V} {ds : List D} (r : RpL K rs F vs ds) : vs.isEmpty = ds.isEmpty := by
  cases r <;> rfl
theorem truV {K : PySem.W.Frag} {B : Bs} {F H : Hp} {v : V} {d : D} {k : Bool → Prop} (e : Ex F H) (r : Rq K B F H v d) (q : truD d k) : ∃ b, TruV K v H b ∧ k b := by
  cases d with
  | non => cases r.non; exact ⟨_, rfl, q⟩
  | bl b => cases r.bl; exact ⟨_, rfl, q⟩
  | int i => cases r.int; exact ⟨_, rfl, q⟩
  | str s =>
    cases r.str.1
    exact ⟨_, ⟨by rw [sizeLine_eq]; exact q.1, rfl⟩, q.2⟩
  | lst xs =>
    obtain ⟨p, vs, rfl, h, rl⟩ := r.lst e
    exact ⟨_, .inl ⟨vs, SqL.of h, rfl⟩, by rw [rl.isEmpty]; exact q⟩
  | tup xs =>
    obtain ⟨p, vs, rfl, h, rl⟩ := r.tup
    exact ⟨_, .inr (.inl ⟨vs, exT e h, rfl⟩), by rw [rl.isEmpty]; exact q⟩
  | _ => exact (show False from q).elim
@[simp ↓] def dTru (t : TD) : TDt := fun ρ k x => t ρ (fun r ρ' => val ρ' r fun d => truD d fun b => k b ρ') x
theorem dt_tru {t : TD} (h : DE X E e t) (he : ∀ whole, isTrue e X.env whole = (do let v ← whole; standAt e.pos; holding [v] (truthy v)) := by intro _; rfl) : DT X E e (dTru t) :=
  dt_of (pt_truth h he) fun B F ρ σ H k x Q S q n m => ⟨B, F, ρ, _, x, S, q, fun r ρ' F' v H' q1 e1 S1 r1 => by
    obtain ⟨d, q2, r2⟩ := Rv.val S1 r1 q1
    obtain ⟨b, h1, h2⟩ := truV S1.fh r2 q2
    exact ⟨b, h1, n b ρ' F' H' h2 e1 S1⟩, m⟩
@[simp ↓] def dChain (r r' : D → D → (D → Prop) → Prop) (ta tb tc : TD) : TD := fun ρ k x => ta ρ (fun a ρ1 => tb ρ1 (fun b ρ2 => val ρ2 a fun a' => val ρ2 b fun b' => r a' b' fun d => ∃ c, d = .bl c ∧
  if c = true then tc ρ2 (fun e ρ3 => val ρ3 b fun b2 => val ρ3 e fun e' => r' b2 e' fun d => k (.d d) ρ3) x else k (.d (.bl false)) ρ2) x) x
theorem emchain {K : PySem.W.Frag} {r r' : R2} {rd rd' : D → D → (D → Prop) → Prop} (h : OpD K r rd) (h' : OpD K r' rd') {B : Bs} {F : Hp} {ρ : List Sl} {σ : L2.St} {H : Hp} {k : Kn} {x : Kx} {Q : VK}
    (S : Sat K B F ρ σ H) (q : dChain rd rd' ta tb tc ρ k x) (n : nV K B F σ k Q) (m : nX K E B F x) : tChain r r' (emE K E ta) (emE K E tb) (emE K E tc) σ H Q := by
  refine ⟨B, F, ρ, _, x, S, q, fun ra ρ1 F1 v H1 q1 e1 S1 r1 => ?_, m⟩
  refine ⟨B, F1, ρ1, _, x, S1, q1, fun rb ρ2 F2 w H2 q2 e2 S2 r2 => ?_, m.mono e1⟩
  obtain ⟨a', q3, r3⟩ := Rv.val S2 (r1.mono e2) q2
  obtain ⟨b', q4, r4⟩ := Rv.val S2 r2 q3
  refine h B F2 ρ2 σ H2 v w a' b' _ _ S2 r3 r4 q4 fun d F5 u H5 q5 e5 S5 r5 => ?_
  obtain ⟨c, rfl, q6⟩ := q5
  cases r5
  refine ⟨c, rfl, ?_⟩
  cases c with
  | false =>
    simp only [Bool.false_eq_true, if_false] at q6 ⊢
    exact n _ _ _ _ _ q6 ((e1.tr e2).tr e5) S5 (.bl false)
  | true =>
    simp only [if_true] at q6 ⊢
    refine ⟨B, F5, ρ2, _, x, S5, q6, fun rc ρ6 F6 w6 H6 q7 e6 S6 r6 => ?_, m.mono ((e1.tr e2).tr e5)⟩
    obtain ⟨b2, q8, r8⟩ := Rv.val S6 (r2.mono (e5.tr e6)) q7
    obtain ⟨c', q9, r9⟩ := Rv.val S6 r6 q8
    exact h' B F6 ρ6 σ H6 w w6 b2 c' _ Q S6 r8 r9 q9 fun d F' u H' qq ee SS rr => n _ _ _ _ _ qq (((e1.tr e2).tr (e5.tr e6)).tr ee) SS rr
theorem de_chain {op op' : CmpOp} {r r' : R2} {rd rd' : D → D → (D → Prop) → Prop} (ho : OpR X (compareOp op) r) (ho' : OpR X (compareOp op') r') (hd : OpD X.K r rd) (hd' : OpD X.K r' rd') (ha : DE X E a ta) (hb : DE X E b tb) (hc : DE X E c tc)
    (hm : lastMarks [op, op'] [b, c] = false := by with_unfolding_all rfl) : DE X E (.Compare a [op, op'] [b, c] pos) (dChain rd rd' ta tb tc) :=
  de_of (pe_chain ho ho' ha hb hc hm) fun B F ρ σ H k x Q S q n m => emchain hd hd' S q n m
theorem dt_chain {op op' : CmpOp} {r r' : R2} {rd rd' : D → D → (D → Prop) → Prop} (ho : OpR X (compareOp op) r) (ho' : OpR X (compareOp op') r') (hd : OpD X.K r rd) (hd' : OpD X.K r' rd') (ha : DE X E a ta) (hb : DE X E b tb) (hc : DE X E c tc)
    (hm : lastMarks [op, op'] [b, c] = false := by with_unfolding_all rfl) : DT X E (.Compare a [op, op'] [b, c] pos) (dTst (dChain rd rd' ta tb tc)) :=
  dt_of (pt_chain ho ho' ha hb hc hm) fun B F ρ σ H k x Q S q n m => emchain hd hd' S q (nTst n) m

variable {tA tB : TDt} {rest : List Expr}
@[simp ↓] def dAnd (t u : TDt) : TDt := fun ρ k x => t ρ (fun b ρ1 => if b = true then u ρ1 k x else k false ρ1) x
@[simp ↓] def dOr (t u : TDt) : TDt := fun ρ k x => t ρ (fun b ρ1 => if b = true then k true ρ1 else u ρ1 k x) x
@[simp ↓] def dNot (t : TDt) : TDt := fun ρ k x => t ρ (fun b ρ1 => k (!b) ρ1) x
theorem dw_and1 (h : DT X E a tA) : DW X E (.BoolOp .And [a] pos) tA := pw_and1 h
theorem dw_or1 (h : DT X E a tA) : DW X E (.BoolOp .Or [a] pos) tA := pw_or1 h
theorem dw_and (ha : DT X E a tA) (hb : DW X E (.BoolOp .And (b :: rest) pos) tB) : DW X E (.BoolOp .And (a :: b :: rest) pos) (dAnd tA tB) :=
  PW.imp (pw_and ha hb) fun σ H Q ⟨B, F, ρ, k, x, S, q, n, m⟩ => ⟨B, F, ρ, _, x, S, q, fun b ρ1 F1 H1 q1 e1 S1 => by
    cases b with
    | true => exact ⟨B, F1, ρ1, k, x, S1, q1, n.mono e1, m.mono e1⟩
    | false => exact n _ _ _ _ q1 e1 S1, m⟩
theorem dw_or (ha : DT X E a tA) (hb : DW X E (.BoolOp .Or (b :: rest) pos) tB) : DW X E (.BoolOp .Or (a :: b :: rest) pos) (dOr tA tB) :=
  PW.imp (pw_or ha hb) fun σ H Q ⟨B, F, ρ, k, x, S, q, n, m⟩ => ⟨B, F, ρ, _, x, S, q, fun b ρ1 F1 H1 q1 e1 S1 => by
    cases b with
    | true => exact n _ _ _ _ q1 e1 S1
    | false => exact ⟨B, F1, ρ1, k, x, S1, q1, n.mono e1, m.mono e1⟩, m⟩
theorem DW.dt (h : DW X E e tA) : DT X E e tA := PW.pt h
theorem dt_not (h : DT X E a tA) : DT X E (.UnaryOp .Not a pos) (dNot tA) :=
  dt_of (pt_not h) fun B F ρ σ H k x Q S q n m => ⟨B, F, ρ, _, x, S, q, fun b ρ1 F1 H1 q1 e1 S1 => n _ _ _ _ q1 e1 S1, m⟩
@[simp ↓] def dAndV (t u : TD) : TD := fun ρ k x => t ρ (fun r ρ1 => ∃ b, r = .d (.bl b) ∧ if b = true then u ρ1 k x else k (.d (.bl false)) ρ1) x
@[simp ↓] def dOrV (t u : TD) : TD := fun ρ k x => t ρ (fun r ρ1 => ∃ b, r = .d (.bl b) ∧ if b = true then k (.d (.bl true)) ρ1 else u ρ1 k x) x
@[simp ↓] def dNotV (t : TD) : TD := fun ρ k x => t ρ (fun r ρ1 => ∃ b, r = .d (.bl b) ∧ k (.d (.bl (!b))) ρ1) x
theorem de_one {op : BoolOp} {t : TD} (h : DE X E a t) : DE X E (.BoolOp op [a] pos) t := pe_one h
theorem de_and (ha : DE X E a ta) (hb : DE X E (.BoolOp .And (b :: rest) pos) tb) : DE X E (.BoolOp .And (a :: b :: rest) pos) (dAndV ta tb) :=
  de_of (pe_and ha hb) fun B F ρ σ H k x Q S q n m => ⟨B, F, ρ, _, x, S, q, fun r ρ1 F1 v H1 ⟨c, e, q1⟩ e1 S1 r1 => by
    subst e
    cases (show Rp X.K B.rs F1 v (.bl c) from r1)
    refine ⟨c, rfl, ?_⟩
    cases c with
    | true => exact ⟨B, F1, ρ1, k, x, S1, q1, n.mono e1, m.mono e1⟩
    | false => exact n _ _ _ _ _ q1 e1 S1 (.bl false), m⟩
theorem de_or (ha : DE X E a ta) (hb : DE X E (.BoolOp .Or (b :: rest) pos) tb) : DE X E (.BoolOp .Or (a :: b :: rest) pos) (dOrV ta tb) :=
  de_of (pe_or ha hb) fun B F ρ σ H k x Q S q n m => ⟨B, F, ρ, _, x, S, q, fun r ρ1 F1 v H1 ⟨c, e, q1⟩ e1 S1 r1 => by
    subst e
    cases (show Rp X.K B.rs F1 v (.bl c) from r1)
    refine ⟨c, rfl, ?_⟩
    cases c with
    | false => exact ⟨B, F1, ρ1, k, x, S1, q1, n.mono e1, m.mono e1⟩
    | true => exact n _ _ _ _ _ q1 e1 S1 (.bl true), m⟩
theorem de_not (ha : DE X E a ta) : DE X E (.UnaryOp .Not a pos) (dNotV ta) :=
  de_of (pe_not ha) fun B F ρ σ H k x Q S q n m => ⟨B, F, ρ, _, x, S, q, fun r ρ1 F1 v H1 ⟨c, e, q1⟩ e1 S1 r1 => by
    subst e
    cases (show Rp X.K B.rs F1 v (.bl c) from r1)
    exact ⟨c, rfl, n _ _ _ _ _ q1 e1 S1 (.bl _)⟩, m⟩
@[simp ↓] def dIf (t : TDt) (u w : TD) : TD := fun ρ k x => t ρ (fun b ρ1 => if b = true then u ρ1 k x else w ρ1 k x) x
theorem de_if {c : Expr} (hc : DT X E c tA) (ha : DE X E a ta) (hb : DE X E b tb) : DE X E (.IfExp c a b pos) (dIf tA ta tb) :=
  de_of (pe_ifExp hc ha hb) fun B F ρ σ H k x Q S q n m => ⟨B, F, ρ, _, x, S, q, fun b ρ1 F1 H1 q1 e1 S1 => by
    cases b with
    | true => exact ⟨B, F1, ρ1, k, x, S1, q1, n.mono e1, m.mono e1⟩
    | false => exact ⟨B, F1, ρ1, k, x, S1, q1, n.mono e1, m.mono e1⟩, m⟩

@[simp ↓] def dNil : TDa := fun ρ k _ => k [] ρ
@[simp ↓] def dCons (t : TD) (u : TDa) : TDa := fun ρ k x => t ρ (fun r ρ1 => u ρ1 (fun rs ρ2 => k (r :: rs) ρ2) x) x
theorem da_nil : DA X E [] dNil := da_of pa_nil fun B F ρ σ H k x Q S q n m => n _ _ _ _ _ q (Ex.rf _) S .nil
theorem da_cons {t : TDa} (ha : DE X E e ta) (hr : DA X E es t) (hs : starEach (e :: es) X.env = (false, eval e X.env) :: starEach es X.env := by rfl) : DA X E (e :: es) (dCons ta t) :=
  da_of (pa_cons ha hr hs) fun B F ρ σ H k x Q S q n m => ⟨B, F, ρ, _, x, S, q, fun r ρ1 F1 v H1 q1 e1 S1 r1 =>
    ⟨B, F1, ρ1, _, x, S1, q1, fun rs ρ2 F2 vs H2 q2 e2 S2 r2 => n _ _ _ _ _ q2 (e1.tr e2) S2 (.cons (r1.mono e2) r2), m.mono e1⟩, m⟩
@[simp ↓] def frzs (ρ : List Sl) : List Rx → (List D → List Sl → Prop) → Prop
  | [], k => k [] ρ
  | r :: rs, k => frz ρ r fun d ρ1 => frzs ρ1 rs fun ds ρ2 => k (d :: ds) ρ2
theorem frzs_ok {K : PySem.W.Frag} {B : Bs} {σ : L2.St} {H : Hp} : ∀ {rs : List Rx} {vs : List V} {F : Hp} {ρ : List Sl} {k : List D → List Sl → Prop}, Sat K B F ρ σ H → Paired (Rv K B F σ) vs rs → frzs ρ rs k →
    ∃ ds ρ' F', k ds ρ' ∧ Ex F F' ∧ Sat K B F' ρ' σ H ∧ RpL K B.rs F' vs ds
  | _, _, F, ρ, k, S, .nil, q => ⟨[], ρ, F, q, Ex.rf _, S, .nil⟩
  | _, _, F, ρ, k, S, .cons h t, q => by
    obtain ⟨d, ρ1, F1, q1, e1, S1, r1⟩ := Rv.frz S h q
    obtain ⟨ds, ρ2, F2, q2, e2, S2, r2⟩ := frzs_ok S1 (Paired.mapP t fun _ _ z => Rv.mono z e1) q1
    exact ⟨_, ρ2, F2, q2, e1.tr e2, S2, .cons (r1.mono e2) r2⟩
@[simp ↓] def vals (ρ : List Sl) : List Rx → (List D → Prop) → Prop
  | [], k => k []
  | r :: rs, k => val ρ r fun d => vals ρ rs fun ds => k (d :: ds)
theorem vals_ok {K : PySem.W.Frag} {B : Bs} {σ : L2.St} {H F : Hp} {ρ : List Sl} (S : Sat K B F ρ σ H) : ∀ {rs : List Rx} {vs : List V} {k : List D → Prop}, Paired (Rv K B F σ) vs rs → vals ρ rs k →
    ∃ ds, k ds ∧ Paired (Rq K B F H) vs ds
  | _, _, k, .nil, q => ⟨[], q, .nil⟩
  | _, _, k, .cons h t, q => by
    obtain ⟨d, q1, r1⟩ := Rv.val S h q
    obtain ⟨ds, q2, r2⟩ := vals_ok S t q1
    exact ⟨_, q2, .cons r1 r2⟩
@[simp ↓] def dTup (t : TDa) : TD := fun ρ k x => t ρ (fun rs ρ1 => frzs ρ1 rs fun ds ρ2 => ds.length ≤ 16777216 ∧ k (.d (.tup ds)) ρ2) x
@[simp ↓] def dLst (t : TDa) : TD := fun ρ k x => t ρ (fun rs ρ1 => frzs ρ1 rs fun ds ρ2 => ds.length ≤ 16777216 ∧ k (.d (.lst ds)) ρ2) x
theorem de_tup {t : TDa} {x1 : Nat} (h : DA X E es t) : DE X E (.Tuple es x1 pos) (dTup t) :=
  de_of (pe_tup h) fun B F ρ σ H k x Q S q n m => ⟨B, F, ρ, _, x, S, q, fun rs ρ1 F1 vs H1 q1 e1 S1 r1 => by
    obtain ⟨ds, ρ2, F2, ⟨hl, q2⟩, e2, S2, r2⟩ := frzs_ok S1 r1 q1
    refine ⟨by rw [r2.length, sizeLine_eq]; exact hl, fun p hp => ?_⟩
    have e3 : Ex F2 (upd F2 p (.tup vs)) := Ex.up (S2.toGr.fresh hp).1
    exact n _ _ _ _ _ q2 ((e1.tr e2).tr e3) (S2.laidF hp) (Rp.tup (SqT.of upd_same) (r2.mono e3)), m⟩
theorem de_lst {t : TDa} (h : DA X E es t) : DE X E (.List es pos) (dLst t) :=
  de_of (pe_lst h) fun B F ρ σ H k x Q S q n m => ⟨B, F, ρ, _, x, S, q, fun rs ρ1 F1 vs H1 q1 e1 S1 r1 => by
    obtain ⟨ds, ρ2, F2, ⟨hl, q2⟩, e2, S2, r2⟩ := frzs_ok S1 r1 q1
    refine ⟨by rw [r2.length, sizeLine_eq]; exact hl, fun p hp => ?_⟩
    have e3 : Ex F2 (upd F2 p (.lst vs)) := Ex.up (S2.toGr.fresh hp).1
    exact n _ _ _ _ _ q2 ((e1.tr e2).tr e3) (S2.laidF hp) (Rp.lst upd_same (r2.mono e3)), m⟩
end
end DL
namespace DL
open PySem PySem.Spec PyProof.Rows L2

mutual
def D.py : D → PyData
  | .non => .none
  | .bl b => .bool b
  | .int i => .int i
  | .str s => .str s
  | .tup ds => .tuple (D.pyL ds)
  | .lst ds => .list (D.pyL ds)
  | .dct _ => .dict []
  | .ins _ _ => .dict []
  | .raw _ => .dict []
  | .drw => .dict []
  | .lsq _ => .dict []
def D.pyL : List D → List PyData
  | [] => []
  | d :: ds => d.py :: D.pyL ds
end
mutual
def D.pure : D → Bool
  | .non => true
  | .bl _ => true
  | .int _ => true
  | .str _ => true
  | .tup ds => D.pureL ds
  | .lst ds => D.pureL ds
  | .dct _ => false
  | .ins _ _ => false
  | .raw _ => false
  | .drw => false
  | .lsq _ => false
def D.pureL : List D → Bool
  | [] => true
  | d :: ds => d.pure && D.pureL ds
end
theorem pyL_map (ds : List D) : D.pyL ds = ds.map D.py := by
  induction ds with
  | nil => rfl
  | cons d ds ih => rw [D.pyL, ih]; rfl
theorem pureL_all (ds : List D) : D.pureL ds = ds.all D.pure := by
  induction ds with
  | nil => rfl
  | cons d ds ih => rw [D.pureL, ih]; rfl
theorem sok_strOk {s : Str} (h : SOk s) : PyData.strOk s = true := by
  unfold PyData.strOk
  rw [Array.all_eq_true_iff_forall_mem]
  intro c hc
  exact decide_eq_true (h c (by simpa using hc))
section
variable {K : PySem.W.Frag} {rs : Rs} {F H : Hp}
mutual
theorem Rp.dp (e : Ex F H) : ∀ {v : V} {d : D}, Rp K rs F v d → d.pure = true → Dp K H v d.py ∧ d.py.canLay0 = true
  | _, _, .non, _ => ⟨.non, rfl⟩
  | _, _, .bl b, _ => ⟨.bl b, rfl⟩
  | _, _, .int i, _ => ⟨.int i, rfl⟩
  | _, _, .str s h, _ => ⟨.str s, sok_strOk h⟩
  | _, _, .tup h r, p => by
    obtain ⟨h1, h2⟩ := RpL.dp e r (by simpa [D.pure] using p)
    exact ⟨.tup (exT e h) h1, by simpa [D.py, PyData.canLay0] using h2⟩
  | _, _, .lst h r, p => by
    obtain ⟨h1, h2⟩ := RpL.dp e r (by simpa [D.pure] using p)
    exact ⟨.lst (SqL.of (e _ _ h)) h1, by simpa [D.py, PyData.canLay0] using h2⟩
  | _, _, .dct _ _ _, p => by simp [D.pure] at p
  | _, _, .ins _ _ _, p => by simp [D.pure] at p
  | _, _, .raw _, p => by simp [D.pure] at p
  | _, _, .drw _, p => by simp [D.pure] at p
  | _, _, .lsq _ _, p => by simp [D.pure] at p
theorem RpL.dp (e : Ex F H) : ∀ {vs : List V} {ds : List D}, RpL K rs F vs ds → D.pureL ds = true → DpAll K H vs (D.pyL ds) ∧ PyData.canLayAll0 (D.pyL ds) = true
  | _, _, .nil, _ => ⟨.nil, rfl⟩
  | _, _, .cons h r, p => by
    have p' := Bool.and_eq_true_iff.mp (by simpa only [D.pureL] using p)
    obtain ⟨h1, h2⟩ := Rp.dp e h p'.1
    obtain ⟨h3, h4⟩ := RpL.dp e r p'.2
    exact ⟨.cons h1 h3, by simp [D.pyL, PyData.canLayAll0, h2, h4]⟩
end
theorem Rq.dp {B : Bs} {v : V} {d : D} (r : Rq K B F H v d) (e : Ex F H) (p : d.pure = true) : Dp K H v d.py ∧ d.py.canLay0 = true := by
  rcases r with r | ⟨a, vs, xs, rfl, rfl, h, rl⟩
  · exact r.dp e p
  · obtain ⟨h1, h2⟩ := RpL.dp e rl (by simpa [D.pure] using p)
    exact ⟨.lst (SqL.of h) h1, by simpa [D.py, PyData.canLay0] using h2⟩
end

def rEqM (K : PySem.W.Frag) : R2 := fun x y H Q => ∃ d e, Dp K H x d ∧ Dp K H y e ∧ d.canLay0 = true ∧ e.canLay0 = true ∧ (d.depth ≤ 64 ∨ e.depth ≤ 64) ∧ Q (.bl (PyData.eqv d e)) H
def rNeM (K : PySem.W.Frag) : R2 := fun x y H Q => ∃ d e, Dp K H x d ∧ Dp K H y e ∧ d.canLay0 = true ∧ e.canLay0 = true ∧ (d.depth ≤ 64 ∨ e.depth ≤ 64) ∧ Q (.bl (!PyData.eqv d e)) H
section
variable {X : Cx}
theorem op_eqM (hu : X.A.units + 64 < cLine) : OpR X (compareOp .Eq) (rEqM X.K) := by
  intro pins s σ H x y v u Q I rx ry ⟨d, e, hd, he, sd, se, hz, q⟩
  obtain ⟨as, r1⟩ := Dp.reads I d x v hd rx
  obtain ⟨bs, r2⟩ := Dp.reads I e y u he ry
  exact SeqAt.compareEq_reads r1 r2 sd se (by rcases hz with z | z <;> omega) ⟨.bl _, H, I, rfl, q⟩
theorem op_neM (hu : X.A.units + 64 < cLine) : OpR X (compareOp .NotEq) (rNeM X.K) := by
  intro pins s σ H x y v u Q I rx ry ⟨d, e, hd, he, sd, se, hz, q⟩
  obtain ⟨as, r1⟩ := Dp.reads I d x v hd rx
  obtain ⟨bs, r2⟩ := Dp.reads I e y u he ry
  exact SeqAt.compareNe_reads r1 r2 sd se (by rcases hz with z | z <;> omega) ⟨.bl _, H, I, rfl, q⟩
end
def D.eqv (a b : D) : Bool := PyData.eqv a.py b.py
def D.shal (a : D) : Prop := a.py.depth ≤ 64
@[simp ↓] def dEq (a b : D) (k : D → Prop) : Prop := a.pure = true ∧ b.pure = true ∧ (a.shal ∨ b.shal) ∧ k (.bl (a.eqv b))
@[simp ↓] def dNe (a b : D) (k : D → Prop) : Prop := a.pure = true ∧ b.pure = true ∧ (a.shal ∨ b.shal) ∧ k (.bl (!a.eqv b))
section
variable {K : PySem.W.Frag}
theorem opd_eq : OpD K (rEqM K) dEq := fun B F ρ σ H v w a b k Q S ra rb ⟨p1, p2, sh, q⟩ n => by
  obtain ⟨h1, h2⟩ := ra.dp S.fh p1
  obtain ⟨h3, h4⟩ := rb.dp S.fh p2
  exact ⟨_, _, h1, h3, h2, h4, sh, n _ _ _ _ q (Ex.rf _) S (.bl _)⟩
theorem opd_ne : OpD K (rNeM K) dNe := fun B F ρ σ H v w a b k Q S ra rb ⟨p1, p2, sh, q⟩ n => by
  obtain ⟨h1, h2⟩ := ra.dp S.fh p1
  obtain ⟨h3, h4⟩ := rb.dp S.fh p2
  exact ⟨_, _, h1, h3, h2, h4, sh, n _ _ _ _ q (Ex.rf _) S (.bl _)⟩

def sLt (s t : Str) : Bool := decide (s.cps.toList < t.cps.toList)
@[simp ↓] def dLt (a b : D) (k : D → Prop) : Prop := match a, b with
  | .int i, .int j => k (.bl (decide (i < j)))
  | .str s, .str t => k (.bl (sLt s t))
  | _, _ => False
@[simp ↓] def dLe (a b : D) (k : D → Prop) : Prop := match a, b with
  | .int i, .int j => k (.bl (decide (i ≤ j)))
  | .str s, .str t => k (.bl (!sLt t s))
  | _, _ => False
@[simp ↓] def dGt (a b : D) (k : D → Prop) : Prop := match a, b with
  | .int i, .int j => k (.bl (decide (j < i)))
  | .str s, .str t => k (.bl (sLt t s))
  | _, _ => False
@[simp ↓] def dGe (a b : D) (k : D → Prop) : Prop := match a, b with
  | .int i, .int j => k (.bl (decide (j ≤ i)))
  | .str s, .str t => k (.bl (!sLt s t))
  | _, _ => False
end
def rOr (r r' : R2) : R2 := fun x y H Q => r x y H Q ∨ r' x y H Q
section
variable {X : Cx}
def rLtS : R2 := fun x y H Q => ∃ i j, x = .str i ∧ y = .str j ∧ Q (.bl (decide (i.cps.toList < j.cps.toList))) H
def rLeS : R2 := fun x y H Q => ∃ i j, x = .str i ∧ y = .str j ∧ Q (.bl (!decide (j.cps.toList < i.cps.toList))) H
def rGtS : R2 := fun x y H Q => ∃ i j, x = .str i ∧ y = .str j ∧ Q (.bl (decide (j.cps.toList < i.cps.toList))) H
def rGeS : R2 := fun x y H Q => ∃ i j, x = .str i ∧ y = .str j ∧ Q (.bl (!decide (i.cps.toList < j.cps.toList))) H
def rLtA : R2 := rOr (rI0 fun i j => .bl (decide (i < j))) rLtS
def rLeA : R2 := rOr (rI0 fun i j => .bl (decide (i ≤ j))) rLeS
def rGtA : R2 := rOr (rI0 fun i j => .bl (decide (j < i))) rGtS
def rGeA : R2 := rOr (rI0 fun i j => .bl (decide (j ≤ i))) rGeS
theorem op_ltA : OpR X (compareOp .Lt) rLtA := OpR.or op_lt op_lt_str
theorem op_leA : OpR X (compareOp .LtE) rLeA := OpR.or op_le op_le_str
theorem op_gtA : OpR X (compareOp .Gt) rGtA := OpR.or op_gt op_gt_str
theorem op_geA : OpR X (compareOp .GtE) rGeA := OpR.or op_ge op_ge_str
end
section
variable {K : PySem.W.Frag}
theorem opd_ord {ri rs : R2} {fi : Int → Int → Bool} {fs : Str → Str → Bool} {rd : D → D → (D → Prop) → Prop}
    (hi : ∀ i j H Q, Q (.bl (fi i j)) H → ri (.int i) (.int j) H Q) (hs : ∀ i j H Q, Q (.bl (fs i j)) H → rs (.str i) (.str j) H Q)
    (hd : ∀ a b k, rd a b k → (∃ i j, a = .int i ∧ b = .int j ∧ k (.bl (fi i j))) ∨ ∃ i j, a = .str i ∧ b = .str j ∧ k (.bl (fs i j))) : OpD K (rOr ri rs) rd := fun B F ρ σ H v w a b k Q S ra rb q n => by
  rcases hd a b k q with ⟨i, j, rfl, rfl, q2⟩ | ⟨i, j, rfl, rfl, q2⟩
  · cases ra.int
    cases rb.int
    exact .inl (hi _ _ _ _ (n _ _ _ _ q2 (Ex.rf _) S (.bl _)))
  · obtain ⟨rfl, _⟩ := ra.str
    obtain ⟨rfl, _⟩ := rb.str
    exact .inr (hs _ _ _ _ (n _ _ _ _ q2 (Ex.rf _) S (.bl _)))
theorem opd_lt : OpD K rLtA dLt := opd_ord (fi := fun i j => decide (i < j)) (fs := sLt) (fun i j H Q q => ⟨i, j, rfl, rfl, q⟩) (fun i j H Q q => ⟨i, j, rfl, rfl, q⟩) fun a b k q => by
  unfold dLt at q
  split at q
  · exact .inl ⟨_, _, rfl, rfl, q⟩
  · exact .inr ⟨_, _, rfl, rfl, q⟩
  · exact q.elim
theorem opd_le : OpD K rLeA dLe := opd_ord (fi := fun i j => decide (i ≤ j)) (fs := fun s t => !sLt t s) (fun i j H Q q => ⟨i, j, rfl, rfl, q⟩) (fun i j H Q q => ⟨i, j, rfl, rfl, q⟩) fun a b k q => by
  unfold dLe at q
  split at q
  · exact .inl ⟨_, _, rfl, rfl, q⟩
  · exact .inr ⟨_, _, rfl, rfl, q⟩
  · exact q.elim
theorem opd_gt : OpD K rGtA dGt := opd_ord (fi := fun i j => decide (j < i)) (fs := fun s t => sLt t s) (fun i j H Q q => ⟨i, j, rfl, rfl, q⟩) (fun i j H Q q => ⟨i, j, rfl, rfl, q⟩) fun a b k q => by
  unfold dGt at q
  split at q
  · exact .inl ⟨_, _, rfl, rfl, q⟩
  · exact .inr ⟨_, _, rfl, rfl, q⟩
  · exact q.elim
theorem opd_ge : OpD K rGeA dGe := opd_ord (fi := fun i j => decide (j ≤ i)) (fs := fun s t => !sLt s t) (fun i j H Q q => ⟨i, j, rfl, rfl, q⟩) (fun i j H Q q => ⟨i, j, rfl, rfl, q⟩) fun a b k q => by
  unfold dGe at q
  split at q
  · exact .inl ⟨_, _, rfl, rfl, q⟩
  · exact .inr ⟨_, _, rfl, rfl, q⟩
  · exact q.elim
def D.isNon : D → Bool
  | .non => true
  | _ => false
def D.known : D → Bool
  | .raw _ => false
  | _ => true
def rIsN : R2 := fun x y H Q => y = .non ∧ Q (.bl (decide (x = .non))) H
def rNotN : R2 := fun x y H Q => y = .non ∧ Q (.bl (!decide (x = .non))) H
@[simp ↓] def dIs (a b : D) (k : D → Prop) : Prop := b = .non ∧ a.known = true ∧ k (.bl a.isNon)
@[simp ↓] def dIsN (a b : D) (k : D → Prop) : Prop := b = .non ∧ a.known = true ∧ k (.bl (!a.isNon))
theorem isNon_ok {B : Bs} {F H : Hp} {v : V} {a : D} (ra : Rq K B F H v a) (hk : a.known = true) : decide (v = .non) = a.isNon := by
  rcases ra with ra | ⟨p, vs, xs, rfl, rfl, _⟩
  · cases ra <;> first | rfl | (simp [D.known] at hk; done) | (simp [D.isNon]; done)
  · rfl
theorem opd_is : OpD K rIsN dIs := fun B F ρ σ H v w a b k Q S ra rb ⟨hb, hk, q⟩ n => by
  subst hb
  cases rb.non
  refine ⟨rfl, ?_⟩
  rw [isNon_ok ra hk]
  exact n _ _ _ _ q (Ex.rf _) S (.bl _)
theorem opd_isn : OpD K rNotN dIsN := fun B F ρ σ H v w a b k Q S ra rb ⟨hb, hk, q⟩ n => by
  subst hb
  cases rb.non
  refine ⟨rfl, ?_⟩
  rw [isNon_ok ra hk]
  exact n _ _ _ _ q (Ex.rf _) S (.bl _)
end

theorem sok_append {s t : Str} (h : SOk s) (h' : SOk t) : SOk (s ++ t) := fun c hc => by
  have e : (s ++ t).cps.toList = s.cps.toList ++ t.cps.toList := by
    show (s.cps ++ t.cps).toList = _
    simp
  rw [e] at hc
  exact (List.mem_append.mp hc).elim (h c) (h' c)
@[simp ↓] def dAdd (a b : D) (k : D → Prop) : Prop := match a, b with
  | .int i, .int j => k (.int (i + j))
  | .str s, .str t => s.length + t.length ≤ 16777216 ∧ k (.str (s ++ t))
  | .lst xs, .lst ys => xs.length + ys.length ≤ 16777216 ∧ k (.lst (xs ++ ys))
  | .tup xs, .tup ys => xs.length + ys.length ≤ 16777216 ∧ k (.tup (xs ++ ys))
  | _, _ => False
def rAddS : R2 := fun x y H Q => ∃ i j, x = .str i ∧ y = .str j ∧ i.length + j.length ≤ sizeLine ∧ Q (.str (i ++ j)) H
def rAddA (K : PySem.W.Frag) : R2 := rOr (rOr (rI0 fun i j => .int (i + j)) rAddS) (rOr rCat (rCatA K))
section
variable {X : Cx} {K : PySem.W.Frag}
theorem op_addA : OpR X (binaryOp .Add) (rAddA X.K) := OpR.or (OpR.or op_add op_add_str) (OpR.or op_cat op_catA)
theorem opd_add : OpD K (rAddA K) dAdd := fun B F ρ σ H v w a b k Q S ra rb q n => by
  unfold dAdd at q
  split at q
  · cases ra.int
    cases rb.int
    exact .inl (.inl ⟨_, _, rfl, rfl, n _ _ _ _ q (Ex.rf _) S (.int _)⟩)
  · obtain ⟨rfl, h1⟩ := ra.str
    obtain ⟨rfl, h2⟩ := rb.str
    exact .inl (.inr ⟨_, _, rfl, rfl, by rw [sizeLine_eq]; exact q.1, n _ _ _ _ q.2 (Ex.rf _) S (.str _ (sok_append h1 h2))⟩)
  · obtain ⟨p, vs, rfl, h1, r1⟩ := ra.lst S.fh
    obtain ⟨p', ws, rfl, h2, r2⟩ := rb.lst S.fh
    refine .inr (.inl ⟨_, _, vs, ws, rfl, rfl, h1, h2, by rw [sizeLine_eq, r1.length, r2.length]; exact q.1, fun o ho => ?_⟩)
    have e3 : Ex F (upd F o (.lst (vs ++ ws))) := Ex.up (S.toGr.fresh ho).1
    exact n _ _ _ _ q.2 e3 (S.laidF ho) (.lst upd_same ((r1.append r2).mono e3))
  · obtain ⟨p, vs, rfl, h1, r1⟩ := ra.tup
    obtain ⟨p', ws, rfl, h2, r2⟩ := rb.tup
    refine .inr (.inr ⟨_, _, vs, ws, rfl, rfl, exT S.fh h1, exT S.fh h2, by rw [sizeLine_eq, r1.length, r2.length]; exact q.1, fun e => ?_, fun _ e => ?_, fun _ _ o ho => ?_⟩)
    · subst e
      cases r1
      exact n _ _ _ _ q.2 (Ex.rf _) S (.tup h2 r2)
    · subst e
      cases r2
      rw [List.append_nil] at q
      exact n _ _ _ _ q.2 (Ex.rf _) S (.tup h1 r1)
    · have e3 : Ex F (upd F o (.tup (vs ++ ws))) := Ex.up (S.toGr.fresh ho).1
      exact n _ _ _ _ q.2 e3 (S.laidF ho) (.tup (SqT.of upd_same) ((r1.append r2).mono e3))
  · exact q.elim
@[simp ↓] def dI2 (C : Int → Int → Prop) (g : Int → Int → Int) (a b : D) (k : D → Prop) : Prop := match a, b with
  | .int i, .int j => C i j ∧ k (.int (g i j))
  | _, _ => False
theorem opd_i2 {C : Int → Int → Prop} {g : Int → Int → Int} : OpD K (rI C fun i j => .int (g i j)) (dI2 C g) := fun B F ρ σ H v w a b k Q S ra rb q n => by
  unfold dI2 at q
  split at q
  · cases ra.int
    cases rb.int
    exact ⟨_, _, rfl, rfl, q.1, n _ _ _ _ q.2 (Ex.rf _) S (.int _)⟩
  · exact q.elim
@[simp ↓] def dSub (a b : D) (k : D → Prop) : Prop := match a, b with
  | .int i, .int j => k (.int (i - j))
  | _, _ => False
theorem opd_sub : OpD K (rI0 fun i j => .int (i - j)) dSub := fun B F ρ σ H v w a b k Q S ra rb q n => by
  unfold dSub at q
  split at q
  · cases ra.int
    cases rb.int
    exact ⟨_, _, rfl, rfl, n _ _ _ _ q (Ex.rf _) S (.int _)⟩
  · exact q.elim

def D.flat : D → Bool
  | .non => true
  | .bl _ => true
  | .int _ => true
  | .str _ => true
  | _ => false
theorem flatV_ok {B : Bs} {F H : Hp} {v : V} {d : D} (r : Rq K B F H v d) (f : d.flat = true) : flatV v = true := by
  cases d with
  | non => cases r.non; rfl
  | bl _ => cases r.bl; rfl
  | int _ => cases r.int; rfl
  | str _ => cases r.str.1; rfl
  | _ => simp [D.flat] at f
theorem eqV_ok {B : Bs} {F H : Hp} {v w : V} {d e : D} (r : Rq K B F H v d) (r' : Rq K B F H w e) (f : d.flat = true) (f' : e.flat = true) : eqV v w = d.eqv e := by
  cases d with
  | non =>
    cases r.non
    cases e with
    | non => cases r'.non; rfl
    | bl _ => cases r'.bl; rfl
    | int _ => cases r'.int; rfl
    | str _ => cases r'.str.1; rfl
    | _ => simp [D.flat] at f'
  | bl _ =>
    cases r.bl
    cases e with
    | non => cases r'.non; rfl
    | bl _ => cases r'.bl; simp [eqV, D.eqv, D.py, PyData.eqv]
    | int _ => cases r'.int; simp [eqV, D.eqv, D.py, PyData.eqv]
    | str _ => cases r'.str.1; rfl
    | _ => simp [D.flat] at f'
  | int _ =>
    cases r.int
    cases e with
    | non => cases r'.non; rfl
    | bl _ => cases r'.bl; simp [eqV, D.eqv, D.py, PyData.eqv]
    | int _ => cases r'.int; simp [eqV, D.eqv, D.py, PyData.eqv]
    | str _ => cases r'.str.1; rfl
    | _ => simp [D.flat] at f'
  | str _ =>
    cases r.str.1
    cases e with
    | non => cases r'.non; rfl
    | bl _ => cases r'.bl; rfl
    | int _ => cases r'.int; rfl
    | str _ => cases r'.str.1; simp [eqV, D.eqv, D.py, PyData.eqv]
    | _ => simp [D.flat] at f'
  | _ => simp [D.flat] at f
def inD (x : D) (xs : List D) : Bool := xs.any fun y => y.eqv x
theorem inV_ok {B : Bs} {F H : Hp} {v : V} {d : D} (r : Rq K B F H v d) (f : d.flat = true) : ∀ {vs : List V} {ds : List D}, RpL K B.rs F vs ds → ds.all D.flat = true → vs.all flatV = true ∧ inV v vs = inD d ds
  | _, _, .nil, _ => ⟨rfl, rfl⟩
  | _, _, .cons h t, g => by
    rw [List.all_cons, Bool.and_eq_true] at g
    obtain ⟨h1, h2⟩ := inV_ok r f t g.2
    refine ⟨?_, ?_⟩
    · rw [List.all_cons, h1, flatV_ok (Rq.of (H := H) h) g.1]; rfl
    · show (eqV _ v || inV v _) = (D.eqv _ d || inD d _)
      rw [eqV_ok (Rq.of (H := H) h) r g.1 f, h2]
@[simp ↓] def dIn (a b : D) (k : D → Prop) : Prop := match b with
  | .lst xs => a.flat = true ∧ xs.all D.flat = true ∧ k (.bl (inD a xs))
  | .tup xs => a.flat = true ∧ xs.all D.flat = true ∧ k (.bl (inD a xs))
  | .str z => ∃ c, a = .str ⟨#[c]⟩ ∧ k (.bl (decide (c ∈ z.cps.toList)))
  | _ => False
@[simp ↓] def dNotIn (a b : D) (k : D → Prop) : Prop := dIn a b fun d => ∃ c, d = .bl c ∧ k (.bl (!c))
def rInSg : R2 := fun x y H Q => ∃ (c : Nat) (z : Str), x = .str ⟨#[c]⟩ ∧ y = .str z ∧ Q (.bl (decide (c ∈ z.cps.toList))) H
def rNotInSg : R2 := fun x y H Q => ∃ (c : Nat) (z : Str), x = .str ⟨#[c]⟩ ∧ y = .str z ∧ Q (.bl (!decide (c ∈ z.cps.toList))) H
def rInA (K : PySem.W.Frag) : R2 := rOr (rIn K false) rInSg
def rNotInA (K : PySem.W.Frag) : R2 := rOr (rIn K true) rNotInSg
theorem op_inA : OpR X (compareOp .In) (rInA X.K) := OpR.or op_in_seq op_in_sign
theorem op_notInA : OpR X (compareOp .NotIn) (rNotInA X.K) := OpR.or op_notIn_seq op_notIn_sign
theorem opd_in : OpD K (rInA K) dIn := fun B F ρ σ H v w a b k Q S ra rb q n => by
  unfold dIn at q
  split at q
  · obtain ⟨f1, f2, q⟩ := q
    obtain ⟨p, vs, rfl, h1, r1⟩ := rb.lst S.fh
    obtain ⟨h2, h3⟩ := inV_ok ra f1 r1 f2
    exact .inl ⟨p, vs, rfl, .inl (SqL.of h1), flatV_ok ra f1, h2, by rw [h3]; exact n _ _ _ _ q (Ex.rf _) S (.bl _)⟩
  · obtain ⟨f1, f2, q⟩ := q
    obtain ⟨p, vs, rfl, h1, r1⟩ := rb.tup
    obtain ⟨h2, h3⟩ := inV_ok ra f1 r1 f2
    exact .inl ⟨p, vs, rfl, .inr (exT S.fh h1), flatV_ok ra f1, h2, by rw [h3]; exact n _ _ _ _ q (Ex.rf _) S (.bl _)⟩
  · obtain ⟨c, rfl, q⟩ := q
    cases ra.str.1
    cases rb.str.1
    exact .inr ⟨c, _, rfl, rfl, n _ _ _ _ q (Ex.rf _) S (.bl _)⟩
  · exact q.elim
theorem opd_notIn : OpD K (rNotInA K) dNotIn := fun B F ρ σ H v w a b k Q S ra rb q n => by
  unfold dNotIn dIn at q
  split at q
  · obtain ⟨f1, f2, c, e, q⟩ := q
    cases e
    obtain ⟨p, vs, rfl, h1, r1⟩ := rb.lst S.fh
    obtain ⟨h2, h3⟩ := inV_ok ra f1 r1 f2
    exact .inl ⟨p, vs, rfl, .inl (SqL.of h1), flatV_ok ra f1, h2, by rw [h3]; exact n _ _ _ _ q (Ex.rf _) S (.bl _)⟩
  · obtain ⟨f1, f2, c, e, q⟩ := q
    cases e
    obtain ⟨p, vs, rfl, h1, r1⟩ := rb.tup
    obtain ⟨h2, h3⟩ := inV_ok ra f1 r1 f2
    exact .inl ⟨p, vs, rfl, .inr (exT S.fh h1), flatV_ok ra f1, h2, by rw [h3]; exact n _ _ _ _ q (Ex.rf _) S (.bl _)⟩
  · obtain ⟨c, rfl, c', e, q⟩ := q
    cases e
    cases ra.str.1
    cases rb.str.1
    exact .inr ⟨c, _, rfl, rfl, n _ _ _ _ q (Ex.rf _) S (.bl _)⟩
  · exact q.elim

theorem RpL.atI {rs : Rs} {F : Hp} {vs : List V} {ds : List D} {i : Int} {d : D} (r : RpL K rs F vs ds) (h : L2.atI ds i = some d) : ∃ v, L2.atI vs i = some v ∧ Rp K rs F v d := by
  unfold L2.atI at h ⊢
  rw [r.length]
  cases e : ixN ds.length i with
  | none => rw [e] at h; cases h
  | some j =>
    rw [e] at h
    exact r.get h
@[simp ↓] def dIx (a b : D) (k : D → Prop) : Prop := match a, b with
  | .lst xs, .int i => ∃ d, atI xs i = some d ∧ k d
  | .tup xs, .int i => ∃ d, atI xs i = some d ∧ k d
  | .str z, .int i => z.length ≤ 16777216 ∧ ∃ c, atI z.cps.toList i = some c ∧ k (.str ⟨#[c]⟩)
  | _, _ => False
theorem sok_one {c : Nat} {z : Str} (h : SOk z) (hc : c ∈ z.cps.toList) : SOk ⟨#[c]⟩ := fun x hx => by
  have e : x = c := by simpa using hx
  rw [e]
  exact h c hc
theorem atI_mem {α : Type} {xs : List α} {i : Int} {v : α} (h : L2.atI xs i = some v) : v ∈ xs := by
  obtain ⟨j, _, h2, _⟩ := atI_get h
  exact List.mem_of_getElem? h2
theorem opd_ix : OpD K (rIx K) dIx := fun B F ρ σ H v w a b k Q S ra rb q n => by
  unfold dIx at q
  split at q
  · obtain ⟨d, h, q⟩ := q
    cases rb.int
    obtain ⟨p, vs, rfl, h1, r1⟩ := ra.lst S.fh
    obtain ⟨v, h2, r2⟩ := r1.atI h
    exact .inl ⟨p, vs, _, v, rfl, rfl, SqL.of h1, h2, n _ _ _ _ q (Ex.rf _) S r2⟩
  · obtain ⟨d, h, q⟩ := q
    cases rb.int
    obtain ⟨p, vs, rfl, h1, r1⟩ := ra.tup
    obtain ⟨v, h2, r2⟩ := r1.atI h
    exact .inr (.inl ⟨p, vs, _, v, rfl, rfl, exT S.fh h1, h2, n _ _ _ _ q (Ex.rf _) S r2⟩)
  · obtain ⟨hz, c, h, q⟩ := q
    cases rb.int
    obtain ⟨rfl, so⟩ := ra.str
    exact .inr (.inr ⟨_, _, c, rfl, rfl, by rw [sizeLine_eq]; exact hz, h, n _ _ _ _ q (Ex.rf _) S (.str _ (sok_one so (atI_mem h)))⟩)
  · exact q.elim
end
section
variable {X : Cx} {E : XK} {a b : Expr} {ta tb : TD} {pos p2 : Pos}
theorem de_ix (ha : DE X E a ta) (hb : DE X E b tb) (hs : PlainIx b := by intro _ _; rfl) : DE X E (.Subscript a b pos) (dOp dIx ta tb) :=
  de_of (pe_ix ix_seq ha hb hs) fun B F ρ σ H k x Q S q n m => emop opd_ix S q n m
abbrev TDo := List Sl → (Option Int → List Sl → Prop) → Kx → Prop
def nO (K : PySem.W.Frag) (B : Bs) (F : Hp) (σ : L2.St) (k : Option Int → List Sl → Prop) (Q : Option Int → Hp → Prop) : Prop := ∀ b ρ' F' H', k b ρ' → Ex F F' → Sat K B F' ρ' σ H' → Q b H'
def emO (K : PySem.W.Frag) (E : XK) (t : TDo) : TO := fun σ H Q => ∃ B F ρ k x, Sat K B F ρ σ H ∧ t ρ k x ∧ nO K B F σ k Q ∧ nX K E B F x
def DO (X : Cx) (E : XK) (e : Option Expr) (t : TDo) : Prop := PO X e (emO X.K E t)
@[simp ↓] def dNoPart : TDo := fun ρ k _ => k none ρ
@[simp ↓] def dPart (t : TD) : TDo := fun ρ k x => t ρ (fun r ρ' => ∃ i, r = .d (.int i) ∧ k (some i) ρ') x
theorem do_none : DO X E none dNoPart := ⟨fun pins s σ H Q I ⟨B, F, ρ, k, x, S, q, n, m⟩ => po_none.run pins s σ H Q I (n _ _ _ _ q (Ex.rf _) S)⟩
theorem do_some {t : TD} (h : DE X E a t) : DO X E (some a) (dPart t) := ⟨fun pins s σ H Q I ⟨B, F, ρ, k, x, S, q, n, m⟩ => (po_some h).run pins s σ H Q I ⟨B, F, ρ, _, x, S, q, fun r ρ1 F1 v H1 ⟨i, e, q1⟩ e1 S1 r1 => by
  subst e
  cases (show Rp X.K B.rs F1 v (.int i) from r1)
  exact ⟨i, rfl, n _ _ _ _ q1 e1 S1⟩, m⟩⟩
def cutD (xs : List D) (lo hi : Option Int) : List D := (xs.drop (HT.sIx xs.length 0 lo)).take (HT.sIx xs.length xs.length hi - HT.sIx xs.length 0 lo)
theorem RpL.cut {K : PySem.W.Frag} {rs : Rs} {F : Hp} {vs : List V} {ds : List D} {lo hi : Option Int} (r : RpL K rs F vs ds) : RpL K rs F (cutV vs lo hi) (cutD ds lo hi) := by
  unfold cutV cutD
  rw [r.length]
  exact (r.drop _).take _
@[simp ↓] def dCut (a : D) (lo hi : Option Int) (k : D → Prop) : Prop := match a with
  | .lst xs => k (.lst (cutD xs lo hi))
  | .tup xs => k (.tup (cutD xs lo hi))
  | .str z => z.length ≤ 16777216 ∧ k (.str (cutS z lo hi))
  | .lsq xs => k (.lst (cutD xs lo hi))
  | _ => False
@[simp ↓] def dSl (t : TD) (tl th : TDo) : TD := fun ρ k x => t ρ (fun a ρ1 => tl ρ1 (fun l ρ2 => th ρ2 (fun h ρ3 => val ρ3 a fun a' => dCut a' l h fun d => k (.d d) ρ3) x) x) x
def rSlAll (K : PySem.W.Frag) : V → Option Int → Option Int → Hp → VK → Prop := fun x lo hi H Q => rSlL K x lo hi H Q ∨ (rSlA K x lo hi H Q ∨ rSlS x lo hi H Q)
theorem sl_all : SlR X (rSlAll X.K) := SlR.or sl_list (SlR.or sl_tupA sl_str)
theorem sok_cut {z : Str} {lo hi : Option Int} (h : SOk z) : SOk (cutS z lo hi) := fun c hc => by
  have hc' : c ∈ (z.cps.toList.drop (HT.sIx z.length 0 lo)).take (HT.sIx z.length z.length hi - HT.sIx z.length 0 lo) := by simpa [cutS] using hc
  exact h c (List.mem_of_mem_drop (List.mem_of_mem_take hc'))
theorem cutD_whole {xs : List D} {lo hi : Option Int} (h : HT.sIx xs.length 0 lo = 0 ∧ HT.sIx xs.length xs.length hi = xs.length) : cutD xs lo hi = xs := by
  unfold cutD
  rw [h.1, h.2]
  simp
theorem de_slice {lo hi : Option Expr} {t : TD} {tl th : TDo} (he : DE X E a t) (hl : DO X E lo tl) (hh : DO X E hi th) : DE X E (.Subscript a (.Slice lo hi none p2) pos) (dSl t tl th) :=
  de_of (pe_slice sl_all he hl hh) fun B F ρ σ H k x Q S q n m => by
    refine ⟨B, F, ρ, _, x, S, q, fun ra ρ1 F1 v H1 q1 e1 S1 r1 => ?_, m⟩
    refine ⟨B, F1, ρ1, _, x, S1, q1, fun l ρ2 F2 H2 q2 e2 S2 => ?_, m.mono e1⟩
    refine ⟨B, F2, ρ2, _, x, S2, q2, fun h ρ3 F3 H3 q3 e3 S3 => ?_, m.mono (e1.tr e2)⟩
    obtain ⟨a', q4, r4⟩ := Rv.val S3 (r1.mono (e2.tr e3)) q3
    have n' := n.mono ((e1.tr e2).tr e3)
    unfold dCut at q4
    split at q4
    · obtain ⟨p, vs, rfl, h1, rl⟩ := r4.lst S3.fh
      refine .inl ⟨p, vs, rfl, SqL.of h1, fun o ho => ?_⟩
      have e5 : Ex F3 (upd F3 o (.lst (cutV vs l h))) := Ex.up (S3.toGr.fresh ho).1
      exact n' _ _ _ _ _ q4 e5 (S3.laidF ho) (Rp.lst upd_same (rl.cut.mono e5))
    · rename_i xs
      obtain ⟨p, vs, rfl, h1, rl⟩ := r4.tup
      refine .inr (.inl ⟨p, vs, rfl, exT S3.fh h1, fun hw => ?_, fun _ o ho => ?_⟩)
      · rw [rl.length] at hw
        rw [cutD_whole hw] at q4
        exact n' _ _ _ _ _ q4 (Ex.rf _) S3 (Rp.tup h1 rl)
      · have e5 : Ex F3 (upd F3 o (.tup (cutV vs l h))) := Ex.up (S3.toGr.fresh ho).1
        exact n' _ _ _ _ _ q4 e5 (S3.laidF ho) (Rp.tup (SqT.of upd_same) (rl.cut.mono e5))
    · obtain ⟨rfl, so⟩ := r4.str
      exact .inr (.inr ⟨_, rfl, by rw [sizeLine_eq]; exact q4.1, n' _ _ _ _ _ q4.2 (Ex.rf _) S3 (Rp.str _ (sok_cut so))⟩)
    · cases r4.notL (fun _ z => nomatch z) with
      | @lsq p vs _ hq rl =>
        refine .inl ⟨p, vs, rfl, exL S3.fh hq, fun o ho => ?_⟩
        have e5 : Ex F3 (upd F3 o (.lst (cutV vs l h))) := Ex.up (S3.toGr.fresh ho).1
        exact n' _ _ _ _ _ q4 e5 (S3.laidF ho) (Rp.lst upd_same (rl.cut.mono e5))
    · exact q4.elim
end
end DL
namespace DL
open PySem PySem.Spec PyProof.Rows L2

def CallD (K : PySem.W.Frag) (r : List V → Hp → VK → Prop) (rd : List D → (D → Prop) → Prop) : Prop :=
  ∀ B F ρ σ H vs ds k Q, Sat K B F ρ σ H → Paired (Rq K B F H) vs ds → rd ds k → (∀ d F' u H', k d → Ex F F' → Sat K B F' ρ σ H' → Rp K B.rs F' u d → Q u H') → r vs H Q
@[simp ↓] def dCB (rd : List D → (D → Prop) → Prop) (ta : TDa) : TD := fun ρ k x => ta ρ (fun rs ρ1 => vals ρ1 rs fun ds => rd ds fun d => k (.d d) ρ1) x
section
variable {X : Cx} {E : XK} {e o : Expr} {es : List Expr} {x : Str} {p pos apos : Pos} {id T : String} {t : TDa}
theorem emcb {K : PySem.W.Frag} {r : List V → Hp → VK → Prop} {rd : List D → (D → Prop) → Prop} (h : CallD K r rd) {B : Bs} {F : Hp} {ρ : List Sl} {σ : L2.St} {H : Hp} {k : Kn} {x : Kx} {Q : VK}
    (S : Sat K B F ρ σ H) (q : dCB rd t ρ k x) (n : nV K B F σ k Q) (m : nX K E B F x) : tCB r (emA K E t) σ H Q :=
  ⟨B, F, ρ, _, x, S, q, fun rs ρ1 F1 vs H1 q1 e1 S1 r1 => by
    obtain ⟨ds, q2, r2⟩ := vals_ok S1 r1 q1
    exact h B F1 ρ1 σ H1 vs ds _ Q S1 r2 q2 fun d F' u H' q3 e3 S3 r3 => n _ _ _ _ _ q3 (e1.tr e3) S3 r3, m⟩
theorem de_cb {r : List V → Hp → VK → Prop} {rd : List D → (D → Prop) → Prop} (hc : CallR X (.builtin id) r) (hd : CallD X.K r rd) (hg : Gl X x) (hm : X.mg x = none) (hv : bootBuiltins x = some (.builtin id)) (ha : DA X E (e :: es) t)
    (hn : x ≠ "__name__" := by decide) (hdb : (x == ("__debug__" : Str)) = false := by decide)
    (he : starEach (e :: es) X.env = (false, eval e X.env) :: starEach es X.env := by rfl) (hpl : (backTo pos (starEach es X.env)).any (·.1) = false := by rfl) : DE X E (.Call (.Name x p) (e :: es) [] pos) (dCB rd t) :=
  de_of (pe_callB hc hg hm hv ha hn hdb he hpl) fun B F ρ σ H k x Q S q n m => emcb hd S q n m
theorem de_ct {r : List V → Hp → VK → Prop} {rd : List D → (D → Prop) → Prop} (hc : CallR X (.type T) r) (hd : CallD X.K r rd) (hg : Gl X x) (hm : X.mg x = none) (hv : bootBuiltins x = some (.type T)) (ha : DA X E (e :: es) t)
    (hn : x ≠ "__name__" := by decide) (hdb : (x == ("__debug__" : Str)) = false := by decide)
    (he : starEach (e :: es) X.env = (false, eval e X.env) :: starEach es X.env := by rfl) (hpl : (backTo pos (starEach es X.env)).any (·.1) = false := by rfl) : DE X E (.Call (.Name x p) (e :: es) [] pos) (dCB rd t) :=
  de_of (pe_callTy hc hg hm hv ha hn hdb he hpl) fun B F ρ σ H k x Q S q n m => emcb hd S q n m
end
theorem pone {α β : Type} {R : α → β → Prop} {xs : List α} {d : β} (h : Paired R xs [d]) : ∃ v, xs = [v] ∧ R v d := by
  cases h with
  | cons h t => cases t; exact ⟨_, rfl, h⟩
theorem ptwo {α β : Type} {R : α → β → Prop} {xs : List α} {d e : β} (h : Paired R xs [d, e]) : ∃ v w, xs = [v, w] ∧ R v d ∧ R w e := by
  cases h with
  | cons h t =>
    obtain ⟨w, rfl, h2⟩ := pone t
    exact ⟨_, w, rfl, h, h2⟩
@[simp ↓] def d1 (f : D → (D → Prop) → Prop) : List D → (D → Prop) → Prop
  | [d], k => f d k
  | _, _ => False
theorem calld_1 {K : PySem.W.Frag} {r : List V → Hp → VK → Prop} {f : D → (D → Prop) → Prop}
    (h : ∀ B F ρ σ H v d k Q, Sat K B F ρ σ H → Rq K B F H v d → f d k → (∀ d F' u H', k d → Ex F F' → Sat K B F' ρ σ H' → Rp K B.rs F' u d → Q u H') → r [v] H Q) : CallD K r (d1 f) := fun B F ρ σ H vs ds k Q S ra q n => by
  match ds, q with
  | [d], q =>
    obtain ⟨v, rfl, rv⟩ := pone ra
    exact h B F ρ σ H v d k Q S rv q n
theorem RpL.strs {K : PySem.W.Frag} {rs : Rs} {F : Hp} : ∀ {ss : List Str} {vs : List V}, RpL K rs F vs (ss.map D.str) → vs = ss.map V.str ∧ ∀ s ∈ ss, SOk s
  | [], _, h => by cases h; exact ⟨rfl, fun _ z => nomatch z⟩
  | s :: ss, _, h => by
    cases h with
    | cons h t =>
      obtain ⟨rfl, g⟩ := RpL.strs t
      cases h with
      | str _ so =>
        refine ⟨rfl, fun z hz => ?_⟩
        rcases List.mem_cons.mp hz with rfl | hz
        · exact so
        · exact g z hz
theorem RpL.ofStrs {K : PySem.W.Frag} {rs : Rs} {F : Hp} : ∀ {ss : List Str}, (∀ s ∈ ss, SOk s) → RpL K rs F (ss.map V.str) (ss.map D.str)
  | [], _ => .nil
  | s :: ss, h => .cons (.str s (h s List.mem_cons_self)) (RpL.ofStrs fun z hz => h z (List.mem_cons_of_mem _ hz))
theorem RpL.bls {K : PySem.W.Frag} {rs : Rs} {F : Hp} : ∀ {bs : List Bool} {vs : List V}, RpL K rs F vs (bs.map D.bl) → vs = bs.map V.bl
  | [], _, h => by cases h; rfl
  | b :: bs, _, h => by
    cases h with
    | cons h t =>
      cases RpL.bls t
      cases h
      rfl
theorem RpL.ints {K : PySem.W.Frag} {rs : Rs} {F : Hp} : ∀ {bs : List Int} {vs : List V}, RpL K rs F vs (bs.map D.int) → vs = bs.map V.int
  | [], _, h => by cases h; rfl
  | b :: bs, _, h => by
    cases h with
    | cons h t =>
      cases RpL.ints t
      cases h
      rfl
theorem RpL.ofInts {K : PySem.W.Frag} {rs : Rs} {F : Hp} : ∀ {ss : List Int}, RpL K rs F (ss.map V.int) (ss.map D.int)
  | [] => .nil
  | s :: ss => .cons (.int s) RpL.ofInts
section
variable {X : Cx} {K : PySem.W.Frag}
@[simp ↓] def fLen (d : D) (k : D → Prop) : Prop := match d with
  | .str s => s.length ≤ 16777216 ∧ k (.int s.length)
  | .lst xs => k (.int xs.length)
  | .tup xs => k (.int xs.length)
  | .lsq xs => k (.int xs.length)
  | _ => False
def rLen (K : PySem.W.Frag) : List V → Hp → VK → Prop := fun xs H Q => ∃ x n, xs = [x] ∧ LenV K x H n ∧ Q (.int n) H
theorem cd_len : CallD K (rLen K) (d1 fLen) := calld_1 fun B F ρ σ H v d k Q S rv q n => by
  unfold fLen at q
  split at q
  · obtain ⟨rfl, _⟩ := rv.str
    exact ⟨_, _, rfl, ⟨by rw [sizeLine_eq]; exact q.1, rfl⟩, n _ _ _ _ q.2 (Ex.rf _) S (.int _)⟩
  · obtain ⟨p, vs, rfl, h, r⟩ := rv.lst S.fh
    refine ⟨_, _, rfl, .inl ⟨vs, SqL.of h, rfl⟩, ?_⟩
    rw [r.length]
    exact n _ _ _ _ q (Ex.rf _) S (.int _)
  · obtain ⟨p, vs, rfl, h, r⟩ := rv.tup
    refine ⟨_, _, rfl, .inr ⟨vs, exT S.fh h, rfl⟩, ?_⟩
    rw [r.length]
    exact n _ _ _ _ q (Ex.rf _) S (.int _)
  · cases rv.notL (fun _ z => nomatch z) with
    | lsq h r =>
      refine ⟨_, _, rfl, .inl ⟨_, exL S.fh h, rfl⟩, ?_⟩
      rw [r.length]
      exact n _ _ _ _ q (Ex.rf _) S (.int _)
  · exact q.elim
@[simp ↓] def fAll (d : D) (k : D → Prop) : Prop := ∃ bs : List Bool, d = .lst (bs.map D.bl) ∧ k (.bl (bs.all id))
@[simp ↓] def fAny (d : D) (k : D → Prop) : Prop := ∃ bs : List Bool, d = .lst (bs.map D.bl) ∧ k (.bl (bs.any id))
theorem cd_all : CallD K (rAll K) (d1 fAll) := calld_1 fun B F ρ σ H v d k Q S rv ⟨bs, e, q⟩ n => by
  subst e
  obtain ⟨p, vs, rfl, h, r⟩ := rv.lst S.fh
  cases r.bls
  exact ⟨p, bs, rfl, SqL.of h, n _ _ _ _ q (Ex.rf _) S (.bl _)⟩
theorem cd_any : CallD K (rAny K) (d1 fAny) := calld_1 fun B F ρ σ H v d k Q S rv ⟨bs, e, q⟩ n => by
  subst e
  obtain ⟨p, vs, rfl, h, r⟩ := rv.lst S.fh
  cases r.bls
  exact ⟨p, bs, rfl, SqL.of h, n _ _ _ _ q (Ex.rf _) S (.bl _)⟩
@[simp ↓] def fInt (d : D) (k : D → Prop) : Prop := match d with
  | .int i => k (.int i)
  | .bl b => k (.int (if b then 1 else 0))
  | .str s => ∃ n, PySem.intText? s = some n ∧ s.length ≤ 640 ∧ k (.int n)
  | _ => False
def rInt1 : List V → Hp → VK → Prop := fun xs H Q => (∃ i, xs = [.int i] ∧ Q (.int i) H) ∨ ∃ k, xs = [.bl k] ∧ Q (.int (if k then 1 else 0)) H
def rInt2 : List V → Hp → VK → Prop := fun xs H Q => ∃ a n, xs = [.str a] ∧ PySem.intText? a = some n ∧ a.length ≤ 640 ∧ Q (.int n) H
def rIntA : List V → Hp → VK → Prop := fun xs H Q => rInt1 xs H Q ∨ rInt2 xs H Q
theorem cr_intA : CallR X (.type "int") rIntA := by
  intro pins s σ H xs us Q I r h
  rcases h with h | h
  · exact call_int1 pins s σ H xs us Q I r h
  · exact call_int_str pins s σ H xs us Q I r h
theorem cd_int : CallD K rIntA (d1 fInt) := calld_1 fun B F ρ σ H v d k Q S rv q n => by
  unfold fInt at q
  split at q
  · cases rv.int
    exact .inl (.inl ⟨_, rfl, n _ _ _ _ q (Ex.rf _) S (.int _)⟩)
  · cases rv.bl
    exact .inl (.inr ⟨_, rfl, n _ _ _ _ q (Ex.rf _) S (.int _)⟩)
  · obtain ⟨m, h1, h2, q⟩ := q
    obtain ⟨rfl, _⟩ := rv.str
    exact .inr ⟨_, _, rfl, h1, h2, n _ _ _ _ q (Ex.rf _) S (.int _)⟩
  · exact q.elim
@[simp ↓] def fAbs (d : D) (k : D → Prop) : Prop := match d with
  | .int i => k (.int (if i < 0 then -i else i))
  | _ => False
def rAbs : List V → Hp → VK → Prop := fun xs H Q => ∃ i, xs = [.int i] ∧ Q (.int (if i < 0 then -i else i)) H
theorem cd_abs : CallD K rAbs (d1 fAbs) := calld_1 fun B F ρ σ H v d k Q S rv q n => by
  unfold fAbs at q
  split at q
  · cases rv.int
    exact ⟨_, rfl, n _ _ _ _ q (Ex.rf _) S (.int _)⟩
  · exact q.elim
@[simp ↓] def fSorted (d : D) (k : D → Prop) : Prop := ∃ ss : List Str, d = .lst (ss.map D.str) ∧ ss.length < 64 ∧ ∀ ys : List Str, ys.Perm ss → sortedS ys = true → k (.lst (ys.map D.str))
theorem cd_sorted : CallD K (rSortedS K) (d1 fSorted) := calld_1 fun B F ρ σ H v d k Q S rv ⟨ss, e, hl, q⟩ n => by
  subst e
  obtain ⟨p, vs, rfl, h, r⟩ := rv.lst S.fh
  obtain ⟨rfl, so⟩ := r.strs
  refine ⟨p, ss, rfl, SqL.of h, hl, fun ys o hp hs ho => ?_⟩
  have e3 : Ex F (upd F o (.lst (ys.map V.str))) := Ex.up (S.toGr.fresh ho).1
  exact n _ _ _ _ (q ys hp hs) e3 (S.laidF ho) (.lst upd_same (RpL.ofStrs fun z hz => so z (hp.mem_iff.mp hz)))
@[simp ↓] def fTuple (d : D) (k : D → Prop) : Prop := match d with
  | .lst xs => k (.tup xs)
  | .tup xs => k (.tup xs)
  | _ => False
@[simp ↓] def fList (d : D) (k : D → Prop) : Prop := match d with
  | .lst xs => k (.lst xs)
  | .tup xs => k (.lst xs)
  | _ => False
def rTupleOf (K : PySem.W.Frag) : List V → Hp → VK → Prop := fun xs H Q => ∃ p ys, xs = [.ref p] ∧ ((SqL K H p ys ∧ ∀ l, H l = none → Q (.ref l) (upd H l (.tup ys))) ∨ (SqT K H p ys ∧ Q (.ref p) H))
def rListOf (K : PySem.W.Frag) : List V → Hp → VK → Prop := fun xs H Q => ∃ p ys, xs = [.ref p] ∧ (SqL K H p ys ∨ SqT K H p ys) ∧ ∀ l, H l = none → Q (.ref l) (upd H l (.lst ys))
theorem cd_tuple : CallD K (rTupleOf K) (d1 fTuple) := calld_1 fun B F ρ σ H v d k Q S rv q n => by
  unfold fTuple at q
  split at q
  · obtain ⟨p, vs, rfl, h, r⟩ := rv.lst S.fh
    refine ⟨p, vs, rfl, .inl ⟨SqL.of h, fun o ho => ?_⟩⟩
    have e3 : Ex F (upd F o (.tup vs)) := Ex.up (S.toGr.fresh ho).1
    exact n _ _ _ _ q e3 (S.laidF ho) (.tup (SqT.of upd_same) (r.mono e3))
  · obtain ⟨p, vs, rfl, h, r⟩ := rv.tup
    exact ⟨p, vs, rfl, .inr ⟨exT S.fh h, n _ _ _ _ q (Ex.rf _) S (.tup h r)⟩⟩
  · exact q.elim
theorem cd_list : CallD K (rListOf K) (d1 fList) := calld_1 fun B F ρ σ H v d k Q S rv q n => by
  unfold fList at q
  split at q
  · obtain ⟨p, vs, rfl, h, r⟩ := rv.lst S.fh
    refine ⟨p, vs, rfl, .inl (SqL.of h), fun o ho => ?_⟩
    have e3 : Ex F (upd F o (.lst vs)) := Ex.up (S.toGr.fresh ho).1
    exact n _ _ _ _ q e3 (S.laidF ho) (.lst upd_same (r.mono e3))
  · obtain ⟨p, vs, rfl, h, r⟩ := rv.tup
    refine ⟨p, vs, rfl, .inr (exT S.fh h), fun o ho => ?_⟩
    have e3 : Ex F (upd F o (.lst vs)) := Ex.up (S.toGr.fresh ho).1
    exact n _ _ _ _ q e3 (S.laidF ho) (.lst upd_same (r.mono e3))
  · exact q.elim
@[simp ↓] def fStrI (d : D) (k : D → Prop) : Prop := match d with
  | .int i => i.natAbs.log2 < 1920 ∧ k (.str (toString i))
  | _ => False
@[simp ↓] def fMin2 : List D → (D → Prop) → Prop
  | [.int i, .int j], k => k (.int (if j < i then j else i))
  | _, _ => False
def rMin2 : List V → Hp → VK → Prop := fun xs H Q => ∃ i j, xs = [.int i, .int j] ∧ Q (.int (if j < i then j else i)) H
theorem cd_min2 : CallD K rMin2 fMin2 := fun B F ρ σ H vs ds k Q S ra q n => by
  unfold fMin2 at q
  split at q
  · obtain ⟨v, w, rfl, h1, h2⟩ := ptwo ra
    cases h1.int
    cases h2.int
    exact ⟨_, _, rfl, n _ _ _ _ q (Ex.rf _) S (.int _)⟩
  · exact q.elim

def D.ty : D → Option String
  | .non => some "NoneType"
  | .bl _ => some "bool"
  | .int _ => some "int"
  | .str _ => some "str"
  | .tup _ => some "tuple"
  | .lst _ => some "list"
  | .dct _ => some "dict"
  | _ => none
def isiB (a b : String) : Bool := a == b || (a == "bool" && b == "int")
def tysL : List String := ["NoneType", "bool", "int", "str", "tuple", "list", "dict"]
theorem kit_all : (tysL.all fun a => tysL.all fun b => kitB a b == some (isiB a b)) = true := by decide +kernel
theorem kit_of {a b : String} (ha : a ∈ tysL) (hb : b ∈ tysL) : kitB a b = some (isiB a b) := by
  have h := List.all_eq_true.mp (List.all_eq_true.mp kit_all a ha) b hb
  simpa using h
theorem tyX_of {B : Bs} {F H : Hp} {v : V} {d : D} {a : String} (e : Ex F H) (r : Rq K B F H v d) (h : d.ty = some a) : TyX K H v (.type a) ∧ a ∈ tysL := by
  cases d with
  | non => cases h; cases r.non; exact ⟨.base .non, by simp [tysL]⟩
  | bl _ => cases h; cases r.bl; exact ⟨.base (.bl _), by simp [tysL]⟩
  | int _ => cases h; cases r.int; exact ⟨.base (.int _), by simp [tysL]⟩
  | str _ => cases h; cases r.str.1; exact ⟨.base (.str _), by simp [tysL]⟩
  | lst _ =>
    cases h
    obtain ⟨p, vs, rfl, h1, _⟩ := r.lst e
    exact ⟨.base (.lst h1), by simp [tysL]⟩
  | tup _ =>
    cases h
    obtain ⟨p, vs, rfl, h1, _⟩ := r.tup
    refine ⟨?_, by simp [tysL]⟩
    rcases exT e h1 with (h2 | ⟨o, h2⟩) | ⟨o, its, n, h2, h3, _⟩
    · exact .base (.tup h2)
    · exact .fTuple h2
    · exact .kTuple h2 h3
  | dct _ =>
    cases h
    cases r.notL (fun _ z => nomatch z) with
    | dct h1 => exact ⟨.base (.dK (e _ _ h1)), by simp [tysL]⟩
  | _ => cases h
@[simp ↓] def fIsi : List D → (D → Prop) → Prop
  | [d, .raw (.ty T)], k => T ∈ tysL ∧ ∃ a, d.ty = some a ∧ k (.bl (isiB a T))
  | [d, .tup [.raw (.ty T), .raw (.ty U)]], k => T ∈ tysL ∧ U ∈ tysL ∧ ∃ a, d.ty = some a ∧ k (.bl (isiB a T || isiB a U))
  | _, _ => False
def rIsiA (K : PySem.W.Frag) : List V → Hp → VK → Prop := fun xs H Q => rIsi K xs H Q ∨ rIsiT K xs H Q
theorem cr_isiA : CallR X (.builtin "isinstance") (rIsiA X.K) := by
  intro pins s σ H xs us Q I r h
  rcases h with h | h
  · exact call_isi pins s σ H xs us Q I r h
  · exact call_isiT pins s σ H xs us Q I r h
end
theorem rp_raw {K : PySem.W.Frag} {rs : Rs} {F : Hp} {v w : V} (h : Rp K rs F v (.raw w)) : v = w := by cases h; rfl
end DL
namespace DL
open PySem PySem.Spec PyProof.Rows L2
section
variable {X : Cx} {E : XK} {K : PySem.W.Frag} {e o a b c : Expr} {es : List Expr} {x : Str} {p pos apos p1 : Pos} {t : TDa}
@[simp ↓] def dIsi (T : String) (ta : TD) : TD := fun ρ k x => ta ρ (fun r ρ1 => val ρ1 r fun d => ∃ a, d.ty = some a ∧ k (.d (.bl (isiB a T))) ρ1) x
@[simp ↓] def dIsi2 (T U : String) (ta : TD) : TD := fun ρ k x => ta ρ (fun r ρ1 => val ρ1 r fun d => ∃ a, d.ty = some a ∧ k (.d (.bl (isiB a T || isiB a U))) ρ1) x
theorem de_isi {T : String} {ta : TD} {y : Str} (hg : Gl X "isinstance") (hm : X.mg "isinstance" = none) (ha : DE X E a ta) (hy : Gl X y) (my : X.mg y = none) (by_ : bootBuiltins y = some (.type T)) (hT : T ∈ tysL := by decide)
    (hn : y ≠ "__name__" := by decide) (hdb : (y == ("__debug__" : Str)) = false := by decide)
    (he : starEach (a :: [.Name y p1]) X.env = (false, eval a X.env) :: starEach [.Name y p1] X.env := by rfl) (hpl : (backTo pos (starEach [.Name y p1] X.env)).any (·.1) = false := by rfl)
    (he2 : starEach [.Name y p1] X.env = (false, eval (.Name y p1) X.env) :: starEach [] X.env := by rfl) :
    DE X E (.Call (.Name "isinstance" p) [a, .Name y p1] [] pos) (dIsi T ta) := by
  have hb : PE X (.Name y p1) (tC (.ty T)) := pe_bltn hy my by_ rfl hn hdb
  refine de_of (pe_callB (hc := call_isi) hg hm boot_isinstance (pa_cons ha (pa_cons hb pa_nil he2) he) (by decide) (by decide) he hpl) fun B F ρ σ H k x Q S q n m => ?_
  refine ⟨B, F, ρ, _, x, S, q, fun r ρ1 F1 v H1 q1 e1 S1 r1 => ?_, m⟩
  obtain ⟨d, ⟨a, ha, q2⟩, r2⟩ := Rv.val S1 r1 q1
  obtain ⟨ty, hm'⟩ := tyX_of S1.fh r2 ha
  exact ⟨_, _, _, _, _, rfl, .ty _, ty, kit_ty (kit_of hm' hT), n _ _ _ _ _ q2 e1 S1 (Rp.bl _)⟩
theorem de_isi2 {T U : String} {ta : TD} {y z : Str} {p2 p3 : Pos} {kk : Nat} (hg : Gl X "isinstance") (hm : X.mg "isinstance" = none) (ha : DE X E a ta) (hy : Gl X y) (my : X.mg y = none) (by_ : bootBuiltins y = some (.type T)) (hz : Gl X z) (mz : X.mg z = none) (bz : bootBuiltins z = some (.type U))
    (hT : T ∈ tysL := by decide) (hU : U ∈ tysL := by decide)
    (hn : y ≠ "__name__" := by decide) (hdb : (y == ("__debug__" : Str)) = false := by decide) (hn' : z ≠ "__name__" := by decide) (hdb' : (z == ("__debug__" : Str)) = false := by decide)
    (he : starEach (a :: [.Tuple [.Name y p1, .Name z p2] kk p3]) X.env = (false, eval a X.env) :: starEach [.Tuple [.Name y p1, .Name z p2] kk p3] X.env := by rfl) (hpl : (backTo pos (starEach [.Tuple [.Name y p1, .Name z p2] kk p3] X.env)).any (·.1) = false := by rfl)
    (he2 : starEach [.Tuple [.Name y p1, .Name z p2] kk p3] X.env = (false, eval (.Tuple [.Name y p1, .Name z p2] kk p3) X.env) :: starEach [] X.env := by rfl)
    (he3 : starEach (.Name y p1 :: [.Name z p2]) X.env = (false, eval (.Name y p1) X.env) :: starEach [.Name z p2] X.env := by rfl) (he4 : starEach [.Name z p2] X.env = (false, eval (.Name z p2) X.env) :: starEach [] X.env := by rfl) :
    DE X E (.Call (.Name "isinstance" p) [a, .Tuple [.Name y p1, .Name z p2] kk p3] [] pos) (dIsi2 T U ta) := by
  have hb : PE X (.Name y p1) (tC (.ty T)) := pe_bltn hy my by_ rfl hn hdb
  have hc : PE X (.Name z p2) (tC (.ty U)) := pe_bltn hz mz bz rfl hn' hdb'
  refine de_of (pe_callB (hc := call_isiT) hg hm boot_isinstance (pa_cons ha (pa_cons (pe_tup (pa_cons hb (pa_cons hc pa_nil he4) he3)) pa_nil he2) he) (by decide) (by decide) he hpl) fun B F ρ σ H k x Q S q n m => ?_
  refine ⟨B, F, ρ, _, x, S, q, fun r ρ1 F1 v H1 q1 e1 S1 r1 => ?_, m⟩
  obtain ⟨d, ⟨a, ha, q2⟩, r2⟩ := Rv.val S1 r1 q1
  refine ⟨by show 2 ≤ sizeLine; rw [sizeLine_eq]; decide, fun o ho => ?_⟩
  have S2 : Sat X.K B (upd F1 o (.tup [.ty T, .ty U])) ρ1 σ (upd H1 o (.tup [.ty T, .ty U])) := S1.laidF ho
  have e2 : Ex F1 (upd F1 o (.tup [.ty T, .ty U])) := Ex.up (S1.toGr.fresh ho).1
  have r3 : Rq X.K B (upd F1 o (.tup [.ty T, .ty U])) (upd H1 o (.tup [.ty T, .ty U])) v d := by
    rcases r2 with r2 | ⟨p, vs, xs, h1, h2, h3, h4⟩
    · exact .inl (r2.mono e2)
    · exact .inr ⟨p, vs, xs, h1, h2, by rw [upd_ne (ne_of_none h3 ho)]; exact h3, h4.mono e2⟩
  obtain ⟨ty, hm'⟩ := tyX_of S2.fh r3 ha
  refine ⟨_, o, [.ty T, .ty U], _, [.type T, .type U], _, rfl, upd_same, .cons (.ty _) (.cons (.ty _) .nil), ty, ?_, n _ _ _ _ _ q2 (e1.tr e2) S2 (Rp.bl _)⟩
  refine kitAny_cons (kit_ty (kit_of hm' hT)) (fun hf => kitAny_cons (kit_ty (kit_of hm' hU)) (fun hf2 => ?_) (fun ht2 => ?_)) (fun ht => ?_)
  · rw [hf, hf2]; exact kitAny_nil
  · rw [ht2, Bool.or_true]
  · rw [ht]; rfl

def splitC (c : Nat) : List Nat → List (List Nat)
  | [] => [[]]
  | x :: r => if x = c then [] :: splitC c r else match splitC c r with
    | h :: t => (x :: h) :: t
    | [] => [[x]]
def mkS (l : List Nat) : Str := ⟨l.toArray⟩
def spS (c : Nat) (s : Str) : List Str := (splitC c s.cps.toList).map mkS
theorem splitC_ne (c : Nat) : ∀ l : List Nat, splitC c l ≠ []
  | [] => by simp [splitC]
  | x :: r => by
    unfold splitC
    split
    · simp
    · split <;> simp
theorem spl_C (c : Nat) : ∀ (l acc : List Nat), TL.spl [c] 0 acc l = (match splitC c l with | h :: t => (acc ++ h) :: t | [] => [acc])
  | [], acc => by simp [TL.spl_nil, splitC]
  | x :: r, acc => by
    by_cases h : x = c
    · subst h
      rw [TL.spl_hit (by simp [TL.pre])]
      have ih := spl_C x r []
      simp only [List.length_singleton, Nat.sub_self]
      rw [ih]
      cases e : splitC x r with
      | nil => exact absurd e (splitC_ne x r)
      | cons h t => simp [splitC, e]
    · rw [TL.spl_miss (by simp [TL.pre]; exact h)]
      have ih := spl_C c r (acc ++ [x])
      rw [ih]
      cases e : splitC c r with
      | nil => exact absurd e (splitC_ne c r)
      | cons h' t => simp [splitC, e, h]
theorem split_spS {s : Str} {c : Nat} (hc : c < 256) : PySem.Txt.split s ⟨#[c]⟩ = spS c s := by
  have h := TL.split_spl s ⟨#[c]⟩ (by simp [TL.tl]) (TL.kind_ok (by simp [hc]))
  have h2 := spl_C c s.cps.toList []
  have e : TL.tl (⟨#[c]⟩ : Str) = [c] := rfl
  rw [e] at h
  refine TL.map_tl_inj ?_
  rw [h]
  show TL.spl [c] 0 [] s.cps.toList = _
  rw [h2]
  unfold spS
  rw [List.map_map]
  have id' : (TL.tl ∘ mkS) = id := by funext l; rfl
  rw [id', List.map_id]
  cases e : splitC c s.cps.toList with
  | nil => exact absurd e (splitC_ne c _)
  | cons h t => simp
theorem splitC_sub {c : Nat} : ∀ {l : List Nat} {p : List Nat}, p ∈ splitC c l → ∀ x ∈ p, x ∈ l
  | [], p, h => by
    simp [splitC] at h
    subst h
    intro x hx
    cases hx
  | y :: r, p, h => by
    unfold splitC at h
    split at h
    · rcases List.mem_cons.mp h with e | h
      · subst e
        intro x hx
        cases hx
      · exact fun x hx => List.mem_cons_of_mem _ (splitC_sub h x hx)
    · split at h
      · rename_i a t e
        rcases List.mem_cons.mp h with e2 | h
        · subst e2
          intro x hx
          rcases List.mem_cons.mp hx with rfl | hx
          · exact List.mem_cons_self
          · exact List.mem_cons_of_mem _ (splitC_sub (by rw [e]; exact List.mem_cons_self) x hx)
        · exact fun x hx => List.mem_cons_of_mem _ (splitC_sub (by rw [e]; exact List.mem_cons_of_mem _ h) x hx)
      · rename_i e
        exact absurd e (splitC_ne c r)
theorem sok_sub {s t : Str} (h : SOk s) (k : ∀ x ∈ t.cps.toList, x ∈ s.cps.toList) : SOk t := fun c hc => h c (k c hc)
theorem sok_spS {s t : Str} {c : Nat} (h : SOk s) (ht : t ∈ spS c s) : SOk t := by
  unfold spS at ht
  obtain ⟨p, hp, rfl⟩ := List.mem_map.mp ht
  exact sok_sub h fun x hx => splitC_sub hp x (by simpa [mkS] using hx)
@[simp ↓] def dSplit (to te : TD) : TD := fun ρ k x => to ρ (fun a ρ1 => ∃ s, a = .d (.str s) ∧ te ρ1 (fun b ρ2 => ∃ c, b = .d (.str ⟨#[c]⟩) ∧ c < 256 ∧ s.length + 2 ≤ 16777216 ∧ k (.d (.lst ((spS c s).map D.str))) ρ2) x) x
theorem de_split {to te : TD} (ho : DE X E o to) (he : DE X E e te) (hs : starEach [e] X.env = [(false, eval e X.env)] := by rfl) (hbase : attributeBase o "split" X.env (eval o X.env) = eval o X.env := by rfl) (hline : (apos.endLine == pos.line) = true := by rfl) :
    DE X E (.Call (.Attribute o "split" apos) [e] [] pos) (dSplit to te) :=
  de_of (pe_split ho he hs hbase hline) fun B F ρ σ H k x Q S q n m => ⟨B, F, ρ, _, x, S, q, fun a ρ1 F1 v H1 ⟨s, es, q1⟩ e1 S1 r1 => by
    subst es
    cases (show Rp X.K B.rs F1 v (.str s) from r1) with
    | str _ so =>
      refine ⟨⟨_, rfl⟩, B, F1, ρ1, _, x, S1, q1, fun b ρ2 F2 w H2 ⟨c, ec, hc, hl, q2⟩ e2 S2 r2 => ?_, m.mono e1⟩
      subst ec
      cases (show Rp X.K B.rs F2 w (.str ⟨#[c]⟩) from r2)
      refine ⟨s, _, rfl, rfl, rfl, by rw [sizeLine_eq]; exact hl, fun p hp => ?_⟩
      rw [split_spS hc]
      have e3 : Ex F2 (upd F2 p (.lst ((spS c s).map V.str))) := Ex.up (S2.toGr.fresh hp).1
      exact n _ _ _ _ _ q2 ((e1.tr e2).tr e3) (S2.laidF hp) (Rp.lst upd_same (RpL.ofStrs fun z hz => sok_spS so hz)), m⟩
theorem mem_joinL {S : List Nat} : ∀ {ps : List (List Nat)} {x : Nat}, x ∈ TL.joinL S ps → x ∈ S ∨ ∃ p ∈ ps, x ∈ p
  | [], x, h => by simp [TL.joinL] at h
  | [p], x, h => .inr ⟨p, List.mem_singleton.mpr rfl, h⟩
  | p :: q :: r, x, h => by
    have h' : x ∈ p ++ (S ++ TL.joinL S (q :: r)) := h
    rcases List.mem_append.mp h' with h | h
    · exact .inr ⟨p, List.mem_cons_self, h⟩
    · rcases List.mem_append.mp h with h | h
      · exact .inl h
      · rcases mem_joinL h with h | ⟨p', h1, h2⟩
        · exact .inl h
        · exact .inr ⟨p', List.mem_cons_of_mem _ h1, h2⟩
theorem join_codes (y : Str) (parts : List Str) : (PySem.Txt.join y parts).cps.toList = TL.joinL y.cps.toList (parts.map fun s => s.cps.toList) := by
  have h := TL.tl_join y parts
  first
    | exact h
    | (rw [TL.join_eq]; exact h)
theorem sok_join {y : Str} {parts : List Str} (h : SOk y) (hp : ∀ s ∈ parts, SOk s) : SOk (PySem.Txt.join y parts) := fun c hc => by
  rw [join_codes] at hc
  rcases mem_joinL hc with hc | ⟨p, h1, h2⟩
  · exact h c hc
  · obtain ⟨s, hs, rfl⟩ := List.mem_map.mp h1
    exact hp s hs c h2
@[simp ↓] def dJoin (to te : TD) : TD := fun ρ k x => to ρ (fun a ρ1 => ∃ s, a = .d (.str s) ∧ te ρ1 (fun b ρ2 => val ρ2 b fun b' => ∃ ss : List Str, b' = .lst (ss.map D.str) ∧ (ss.map (·.length)).sum + ss.length * s.length ≤ 16777216 ∧ k (.d (.str (PySem.Txt.join s ss))) ρ2) x) x
theorem de_join {to te : TD} (ho : DE X E o to) (he : DE X E e te) (hs : starEach [e] X.env = [(false, eval e X.env)] := by rfl) (hbase : attributeBase o "join" X.env (eval o X.env) = eval o X.env := by rfl) (hline : (apos.endLine == pos.line) = true := by rfl) :
    DE X E (.Call (.Attribute o "join" apos) [e] [] pos) (dJoin to te) :=
  de_of (pe_join ho he hs hbase hline) fun B F ρ σ H k x Q S q n m => ⟨B, F, ρ, _, x, S, q, fun a ρ1 F1 v H1 ⟨s, es, q1⟩ e1 S1 r1 => by
    subst es
    cases (show Rp X.K B.rs F1 v (.str s) from r1) with
    | str _ so =>
      refine ⟨⟨_, rfl⟩, B, F1, ρ1, _, x, S1, q1, fun b ρ2 F2 w H2 q2 e2 S2 r2 => ?_, m.mono e1⟩
      obtain ⟨b', ⟨ss, rfl, hl, q3⟩, r3⟩ := Rv.val S2 r2 q2
      obtain ⟨p, vs, rfl, h, rl⟩ := r3.lst S2.fh
      obtain ⟨rfl, so2⟩ := rl.strs
      exact ⟨s, p, ss, rfl, rfl, .inl (SqL.of h), hl, n _ _ _ _ _ q3 (e1.tr e2) S2 (Rp.str _ (sok_join so so2))⟩, m⟩

theorem Sat.own {K : PySem.W.Frag} {B : Bs} {F H : Hp} {ρ : List Sl} {σ : L2.St} {i : Nat} {xs : List D} (S : Sat K B F ρ σ H) (h : ρ[i]? = some (.o xs)) :
    ∃ p vs, σ[i]? = some (some (V.ref p)) ∧ H p = some (.lst vs) ∧ RpL K B.rs F vs xs ∧ F p = none ∧ B.H0 p = none ∧ ∀ x ∈ B.hl, x.1 ≠ p := S.sl i _ h
@[simp ↓] def dOwn (i : Nat) (ρ : List Sl) (k : List D → Prop) : Prop := match ρ[i]? with
  | some (.o xs) => k xs
  | _ => False
theorem dOwn_ok {i : Nat} {ρ : List Sl} {k : List D → Prop} (h : dOwn i ρ k) : ∃ xs, ρ[i]? = some (.o xs) ∧ k xs := by
  unfold dOwn at h
  split at h
  · exact ⟨_, by assumption, h⟩
  · exact h.elim
@[simp ↓] def dApp (i : Nat) (te : TD) : TD := fun ρ k x => dOwn i ρ fun _ => te ρ (fun r ρ1 => frz ρ1 r fun d ρ2 => dOwn i ρ2 fun xs => xs.length < 16777216 ∧ k (.d .non) (ρ2.set i (.o (xs ++ [d])))) x
theorem de_app {i : Nat} {te : TD} (ho : PE X o (tVar i)) (he : DE X E e te) (hbase : attributeBase o "append" X.env (eval o X.env) = eval o X.env := by rfl)
    (hfew : ((backTo pos (starEach (e :: []) X.env)).all (fun x => !x.1) && (backToKw pos (keywordEach [] X.env)).all (fun x => x.1.isSome)
      && decide ((e :: ([] : List Expr)).length + ([] : List Keyword).length + (if ([] : List Keyword).isEmpty then 0 else 1) < 30)) = true := by rfl)
    (hline : (apos.endLine == pos.line) = true := by rfl) (hs : starEach (e :: []) X.env = (false, eval e X.env) :: starEach [] X.env := by rfl) (hplain : (backTo pos (starEach [] X.env)).any (·.1) = false := by rfl) :
    DE X E (.Call (.Attribute o "append" apos) [e] [] pos) (dApp i te) :=
  de_of (pe_bm PySem.F.plainAttrs_list PySem.F.slot_list_append PySem.F.type_list_append mt_append ho (pa_cons he pa_nil hs) hbase hfew hline hs hplain) fun B F ρ σ H k x Q S q n m => by
    obtain ⟨xs0, h0, q⟩ := dOwn_ok q
    obtain ⟨p, vs0, hv, hH, _, _, _, _⟩ := S.own h0
    refine ⟨_, hv, .inl ⟨rfl, vs0, SqL.of hH⟩, B, F, ρ, _, x, S, q, fun r ρ1 F1 v H1 q1 e1 S1 r1 => ?_, m⟩
    obtain ⟨d, ρ2, F2, q2, e2, S2, r2⟩ := Rv.frz S1 r1 q1
    obtain ⟨xs, h2, hl, q3⟩ := dOwn_ok q2
    obtain ⟨p', vs, hv', hH', rl, hF, h0', hh⟩ := S2.own h2
    rw [hv] at hv'
    cases hv'
    refine ⟨p, vs, v, rfl, rfl, hH', by rw [rl.length, sizeLine_eq]; exact hl, ?_⟩
    exact n _ _ _ _ _ q3 (e1.tr e2) (S2.writeO i h2 hv (rl.append (.cons r2 .nil)) hF h0' hh) Rp.non
end
end DL
namespace DL
open PySem PySem.Spec PyProof.Rows L2

abbrev TF := List D → (D → Prop) → Kx → Prop
def spD (K : PySem.W.Frag) (T : TF) : Sp := fun vs H Q E => ∃ rs F ds k x, Gr ⟨rs, F, H, [], []⟩ F H ∧ RpL K rs F vs ds ∧ T ds k x ∧
  (∀ d F' v H', k d → Gr ⟨rs, F, H, [], []⟩ F' H' → Rp K rs F' v d → Q v H') ∧ (∀ C m F' c H', x C m → Gr ⟨rs, F, H, [], []⟩ F' H' → XOk K ⟨rs, F, H, [], []⟩ F' H' c m → E (.ref C) c H')
theorem spD_len {K : PySem.W.Frag} {T : TF} {n : Nat} (hT : ∀ ds k x, T ds k x → ds.length = n) (vs : List V) (H : Hp) (Q : VK) (E : XK) (h : spD K T vs H Q E) : vs.length = n := by
  obtain ⟨rs, F, ds, k, x, g, r, t, _⟩ := h
  rw [r.length]
  exact hT ds k x t
@[simp ↓] def dCall (T : TF) (ta : TDa) : TD := fun ρ k x => ta ρ (fun rs ρ1 => frzs ρ1 rs fun ds ρ2 => T ds (fun d => k (.d d) ρ2) x) x
section
variable {X : Cx} {E : XK}
theorem emcall {K : PySem.W.Frag} {T : TF} {ta : TDa} {B : Bs} {F : Hp} {ρ : List Sl} {σ : L2.St} {H : Hp} {k : Kn} {x : Kx} {Q : VK}
    (S : Sat K B F ρ σ H) (q : dCall T ta ρ k x) (n : nV K B F σ k Q) (m : nX K E B F x) : emA K E ta σ H fun vs H1 => spD K T (vs ++ []) H1 Q E := by
  refine ⟨B, F, ρ, _, x, S, q, fun rs ρ1 F1 vs H1 q1 e1 S1 r1 => ?_, m⟩
  obtain ⟨ds, ρ2, F2, q2, e2, S2, r2⟩ := frzs_ok S1 r1 q1
  rw [List.append_nil]
  refine ⟨B.rs, F2, ds, _, x, S2.toGr.self, r2, q2, fun d F' v H' q3 g r3 => ?_, fun C m' F' c H' q3 g o => ?_⟩
  · exact n _ _ _ _ _ q3 ((e1.tr e2).tr g.f0) (S2.call g) r3
  · exact m C m' F' c H' q3 ((e1.tr e2).tr g.f0) (S2.toGr.call g) (by
      cases m' with
      | none => exact o
      | some p => exact o)
theorem de_call0 {T : TF} {j : Nat} {f : Addr} {fd : FuncData} {ps : List Str} {x : Str} {p pos : Pos} {e : Expr} {es : List Expr} {ta : TDa}
    (Fn : FnOk X.prog X.w X.K X.mg X.base (L2.CX X.prog X.w) j f fd ps (spD X.K T)) (hr : Room j X.A) (hg : Gl X x) (hm : X.mg x = some (.ref f)) (hk : PySem.W.keepIn X.K (.ref f) = true) (hb : Binds X.K fd ps []) (hx : Passes (L2.CX X.prog X.w) X E)
    (ha : DA X E (e :: es) ta) (hdb : (x == ("__debug__" : Str)) = false := by decide) (he : starEach (e :: es) X.env = (false, eval e X.env) :: starEach es X.env := by rfl) (hpl : (backTo pos (starEach es X.env)).any (·.1) = false := by rfl) :
    DE X E (.Call (.Name x p) (e :: es) [] pos) (dCall T ta) :=
  de_of (pe_call Fn hr hg hm hk hb .nil hx ha hdb he hpl) fun B F ρ σ H k x Q S q n m => emcall S q n m
end

abbrev TDg := D → List Sl → (List Sl → Prop) → Prop
def emG (K : PySem.W.Frag) (is : List Nat) (g : TDg) : TG := fun v σ H Q => ∃ B F ρ d k, Sat K B F ρ σ H ∧ Rp K B.rs F v d ∧ g d ρ k ∧ ∀ ρ' σ', k ρ' → Sat K B F ρ' σ' H → σ'.length = σ.length → (∀ j : Nat, j ∉ is → σ'[j]? = σ[j]?) → Q σ' H
abbrev TDgs := List D → List Sl → (List Sl → Prop) → Prop
def emGs (K : PySem.W.Frag) (is : List Nat) (g : TDgs) : TGs := fun vs σ H Q => ∃ B F ρ ds k, Sat K B F ρ σ H ∧ RpL K B.rs F vs ds ∧ g ds ρ k ∧ ∀ ρ' σ', k ρ' → Sat K B F ρ' σ' H → σ'.length = σ.length → (∀ j : Nat, j ∉ is → σ'[j]? = σ[j]?) → Q σ' H
def DG (X : Cx) (e : Expr) (is : List Nat) (g : TDg) : Prop := PG X e (emG X.K is g)
def DGs (X : Cx) (es : List Expr) (is : List Nat) (g : TDgs) : Prop := PGs X es (emGs X.K is g)
@[simp ↓] def gN (i : Nat) : TDg := fun d ρ k => k (ρ.set i (.d d))
@[simp ↓] def gsN : TDgs := fun ds ρ k => ds = [] ∧ k ρ
@[simp ↓] def gsC (g : TDg) (u : TDgs) : TDgs := fun ds ρ k => match ds with
  | d :: r => g d ρ fun ρ' => u r ρ' k
  | [] => False
@[simp ↓] def gT (n : Nat) (u : TDgs) : TDg := fun d ρ k => match d with
  | .tup ds => ds.length = n ∧ u ds ρ k
  | _ => False
section
variable {X : Cx} {e : Expr} {es : List Expr} {pos : Pos}
theorem PG.imp {t t' : TG} (h : PG X e t) (i : ∀ v σ H Q, t' v σ H Q → t v σ H Q) : PG X e t' := ⟨fun pins s σ H v u Q I r q => h.run pins s σ H v u Q I r (i v σ H Q q)⟩
theorem PG.impN {t t' : TG} (h : PG X e t) (i : ∀ v σ H Q, σ.length = X.N.length → t' v σ H Q → t v σ H Q) : PG X e t' := ⟨fun pins s σ H v u Q I r q => h.run pins s σ H v u Q I r (i v σ H Q I.len q)⟩
theorem PGs.imp {t t' : TGs} (h : PGs X es t) (i : ∀ v σ H Q, t' v σ H Q → t v σ H Q) : PGs X es t' := ⟨fun pins s σ H v u Q I r q => h.run pins s σ H v u Q I r (i v σ H Q q)⟩
theorem dg_name {i : Nat} {x : Str} (hN : X.N.Nodup) (hi : X.N[i]? = some x) (hx : Loc X.env.scope x) (hf : X.fn x = true ∨ X.env.scope.names.lookup x = some .local := by first | exact .inl rfl | exact .inr rfl | assumption) : DG X (.Name x pos) [i] (gN i) :=
  PG.impN (pg_name hN hi hx hf) fun v σ H Q hn ⟨B, F, ρ, d, k, S, r, q, n⟩ => n _ _ q (S.setD i r (by rw [hn]; exact (List.getElem?_eq_some_iff.mp hi).1)) (by simp) fun j hj => by
    rw [List.getElem?_set_ne (fun z => hj (by simp [z]))]
theorem dgs_nil : DGs X [] [] gsN := PGs.imp pgs_nil fun v σ H Q ⟨B, F, ρ, ds, k, S, r, ⟨e, q⟩, n⟩ => by
  subst e
  cases r
  exact ⟨rfl, n _ _ q S rfl fun _ _ => rfl⟩
theorem dgs_cons {is js : List Nat} {g : TDg} {u : TDgs} (h : DG X e is g) (h2 : DGs X es js u) (hs : (assignEach (e :: es) X.env).map (·.2) = assign e X.env :: (assignEach es X.env).map (·.2) := by rfl) : DGs X (e :: es) (is ++ js) (gsC g u) :=
  PGs.imp (pgs_cons h h2 hs) fun v σ H Q ⟨B, F, ρ, ds, k, S, r, q, n⟩ => by
    cases r with
    | nil => exact q.elim
    | cons r1 r2 =>
      refine ⟨_, _, rfl, B, F, ρ, _, _, S, r1, q, fun ρ' σ' q1 S1 l1 z1 => ?_⟩
      refine ⟨B, F, ρ', _, _, S1, r2, q1, fun ρ2 σ2 q2 S2 l2 z2 => n ρ2 σ2 q2 S2 (l2.trans l1) fun j hj => ?_⟩
      rw [z2 j (fun z => hj (List.mem_append_right _ z)), z1 j (fun z => hj (List.mem_append_left _ z))]
theorem dg_tup {is : List Nat} {u : TDgs} {kk n : Nat} (hc : X.calm = true) (h : DGs X es is u) (hn : (assignEach es X.env).length = n := by rfl) (hst : (assignEach es X.env).findIdx? (·.1) = none := by rfl) : DG X (.Tuple es kk pos) is (gT n u) :=
  PG.imp (pg_tup hc h hn hst) fun v σ H Q ⟨B, F, ρ, d, k, S, r, q, n⟩ => by
    unfold gT at q
    split at q
    · cases r with
      | tup hq rl => exact ⟨_, _, rfl, exT S.fh hq, by rw [rl.length]; exact q.1, B, F, ρ, _, k, S, rl, q.2, n⟩
    · exact q.elim
end

structure KD where
  nx : List Sl → Prop
  rt : List Sl → D → Prop
  bk : List Sl → Prop
  ct : List Sl → Prop
  x : Kx
abbrev TDs := KD → List Sl → Prop
structure nS (K : PySem.W.Frag) (B : Bs) (F : Hp) (kd : KD) (D : Ends) : Prop where
  nx : ∀ ρ' F' σ' H', kd.nx ρ' → Ex F F' → Sat K B F' ρ' σ' H' → D.nx σ' H'
  bk : ∀ ρ' F' σ' H', kd.bk ρ' → Ex F F' → Sat K B F' ρ' σ' H' → D.bk σ' H'
  ct : ∀ ρ' F' σ' H', kd.ct ρ' → Ex F F' → Sat K B F' ρ' σ' H' → D.ct σ' H'
  rt : ∀ d ρ' F' σ' v H', kd.rt ρ' d → Ex F F' → Sat K B F' ρ' σ' H' → Rp K B.rs F' v d → D.rt v H'
theorem nS.mono {K : PySem.W.Frag} {B : Bs} {F F' : Hp} {kd : KD} {D : Ends} (n : nS K B F kd D) (e : Ex F F') : nS K B F' kd D :=
  ⟨fun ρ' G σ' H' q z => n.nx ρ' G σ' H' q (e.tr z), fun ρ' G σ' H' q z => n.bk ρ' G σ' H' q (e.tr z), fun ρ' G σ' H' q z => n.ct ρ' G σ' H' q (e.tr z), fun d ρ' G σ' v H' q z => n.rt d ρ' G σ' v H' q (e.tr z)⟩
def emS (K : PySem.W.Frag) (E : XK) (t : TDs) : TS := fun D σ H => ∃ B F ρ kd, Sat K B F ρ σ H ∧ t kd ρ ∧ nS K B F kd D ∧ nX K E B F kd.x
def DS (X : Cx) (E : XK) (st : Stmt) (t : TDs) : Prop := PS X st (emS X.K E t)
def DSs (X : Cx) (E : XK) (st : List Stmt) (t : TDs) : Prop := PSs X st (emS X.K E t)
@[simp ↓] def dNext : TDs := fun kd ρ => kd.nx ρ
@[simp ↓] def dSeq (t u : TDs) : TDs := fun kd ρ => t { kd with nx := fun ρ' => u kd ρ' } ρ
@[simp ↓] def dSet (i : Nat) (te : TD) : TDs := fun kd ρ => te ρ (fun r ρ1 => frz ρ1 r fun d ρ2 => kd.nx (ρ2.set i (.d d))) kd.x
@[simp ↓] def dAsg (te : TD) (g : TDg) : TDs := fun kd ρ => te ρ (fun r ρ1 => frz ρ1 r fun d ρ2 => g d ρ2 kd.nx) kd.x
@[simp ↓] def dIfS (tt : TDt) (t u : TDs) : TDs := fun kd ρ => tt ρ (fun b ρ1 => if b = true then t kd ρ1 else u kd ρ1) kd.x
@[simp ↓] def dRet (te : TD) : TDs := fun kd ρ => te ρ (fun r ρ1 => frz ρ1 r fun d ρ2 => kd.rt ρ2 d) kd.x
@[simp ↓] def dRetN : TDs := fun kd ρ => kd.rt ρ .non
@[simp ↓] def dDrop (te : TD) : TDs := fun kd ρ => te ρ (fun _ ρ1 => kd.nx ρ1) kd.x
section
variable {X : Cx} {E : XK} {st : Stmt} {rest : List Stmt} {t u : TDs} {e : Expr} {te : TD} {pos : Pos}
theorem dss_nil : DSs X E [] dNext := PSs.imp pss_nil fun D σ H ⟨B, F, ρ, kd, S, q, n, m⟩ => n.nx _ _ _ _ q (Ex.rf _) S
theorem emseq {K : PySem.W.Frag} {D : Ends} {σ : L2.St} {H : Hp} (h : emS K E (dSeq t u) D σ H) : emS K E t { D with nx := emS K E u D } σ H := by
  obtain ⟨B, F, ρ, kd, S, q, n, m⟩ := h
  exact ⟨B, F, ρ, _, S, q, ⟨fun ρ' F' σ' H' q' e' S' => ⟨B, F', ρ', kd, S', q', n.mono e', m.mono e'⟩, n.bk, n.ct, n.rt⟩, m⟩
theorem dss_cons (h1 : DS X E st t) (h2 : DSs X E rest u) : DSs X E (st :: rest) (dSeq t u) := PSs.imp (pss_cons h1 h2) fun D σ H h => emseq h
theorem dss_one (h1 : DS X E st t) : DSs X E [st] t := pss_one h1
theorem ds_of {ts : TS} (h : PS X st ts) (i : ∀ B F ρ σ H kd D, Sat X.K B F ρ σ H → t kd ρ → nS X.K B F kd D → nX X.K E B F kd.x → ts D σ H) : DS X E st t :=
  PS.imp h fun D σ H ⟨B, F, ρ, kd, S, q, n, m⟩ => i B F ρ σ H kd D S q n m
theorem ds_ofN {ts : TS} (h : PS X st ts) (i : ∀ B F ρ σ H kd D, σ.length = X.N.length → Sat X.K B F ρ σ H → t kd ρ → nS X.K B F kd D → nX X.K E B F kd.x → ts D σ H) : DS X E st t :=
  ⟨fun pins s σ H D I ⟨B, F, ρ, kd, S, q, n, m⟩ => h.run pins s σ H D I (i B F ρ σ H kd D I.len S q n m)⟩
theorem ix_lt {N : List Str} {σ : L2.St} {i : Nat} {x : Str} (hn : σ.length = N.length) (hi : N[i]? = some x) : i < σ.length := by rw [hn]; exact (List.getElem?_eq_some_iff.mp hi).1
theorem ds_set {i : Nat} {x : Str} {pos' : Pos} (hN : X.N.Nodup) (hi : X.N[i]? = some x) (hx : Loc X.env.scope x) (he : DE X E e te) (hs : swapsWith e (some (.Name x pos')) pos.line X.env = pure false := by rfl) (hf : X.fn x = true ∨ X.env.scope.names.lookup x = some .local := by first | exact .inl rfl | exact .inr rfl | assumption) :
    DS X E (.Assign [.Name x pos'] e pos) (dSet i te) :=
  ds_ofN (ps_set hN hi hx he hs hf) fun B F ρ σ H kd D hn S q n m => ⟨B, F, ρ, _, kd.x, S, q, fun r ρ1 F1 v H1 q1 e1 S1 r1 => by
    obtain ⟨d, ρ2, F2, q2, e2, S2, r2⟩ := Rv.frz S1 r1 q1
    exact n.nx _ _ _ _ q2 (e1.tr e2) (S2.setD i r2 (ix_lt hn hi)), m⟩
theorem ds_asg {tg : Expr} {is : List Nat} {g : TDg} (he : DE X E e te) (hg : DG X tg is g) (hs : swapsWithSole [tg] e pos.line X.env = pure false := by rfl) (hw : swappedStores [tg] e X.env = pure none := by rfl)
    (h1 : (assignEach [tg] X.env).map (·.2) = [assign tg X.env] := by rfl) : DS X E (.Assign [tg] e pos) (dAsg te g) :=
  ds_of (ps_asg he hg hs hw h1) fun B F ρ σ H kd D S q n m => ⟨B, F, ρ, _, kd.x, S, q, fun r ρ1 F1 v H1 q1 e1 S1 r1 => by
    obtain ⟨d, ρ2, F2, q2, e2, S2, r2⟩ := Rv.frz S1 r1 q1
    exact ⟨B, F2, ρ2, d, kd.nx, S2, r2, q2, fun ρ' σ' q3 S3 _ _ => n.nx _ _ _ _ q3 (e1.tr e2) S3⟩, m⟩
theorem ds_if {c : Expr} {a b : List Stmt} {tt : TDt} (hc : DT X E c tt) (ha : DSs X E a t) (hb : DSs X E b u) : DS X E (.If c a b pos) (dIfS tt t u) :=
  ds_of (ps_if hc ha hb) fun B F ρ σ H kd D S q n m => ⟨B, F, ρ, _, kd.x, S, q, fun b ρ1 F1 H1 q1 e1 S1 => by
    cases b with
    | true => exact ⟨B, F1, ρ1, kd, S1, q1, n.mono e1, m.mono e1⟩
    | false => exact ⟨B, F1, ρ1, kd, S1, q1, n.mono e1, m.mono e1⟩, m⟩
theorem ds_ret (he : DE X E e te) : DS X E (.Return (some e) pos) (dRet te) :=
  ds_of (ps_ret he) fun B F ρ σ H kd D S q n m => ⟨B, F, ρ, _, kd.x, S, q, fun r ρ1 F1 v H1 q1 e1 S1 r1 => by
    obtain ⟨d, ρ2, F2, q2, e2, S2, r2⟩ := Rv.frz S1 r1 q1
    exact n.rt _ _ _ _ _ _ q2 (e1.tr e2) S2 r2, m⟩
theorem ds_retN : DS X E (.Return none pos) dRetN := ds_of ps_retN fun B F ρ σ H kd D S q n m => n.rt _ _ _ _ _ _ q (Ex.rf _) S .non
theorem ds_expr (he : DE X E e te) (hs : swapsWith e none pos.line X.env = pure false := by rfl) : DS X E (.Expr e pos) (dDrop te) :=
  ds_of (ps_expr he hs) fun B F ρ σ H kd D S q n m => ⟨B, F, ρ, _, kd.x, S, q, fun r ρ1 F1 v H1 q1 e1 S1 r1 => n.nx _ _ _ _ q1 e1 S1, m⟩
theorem ds_pass : DS X E (.Pass pos) dNext := ds_of ps_pass fun B F ρ σ H kd D S q n m => n.nx _ _ _ _ q (Ex.rf _) S
@[simp ↓] def dBrk : TDs := fun kd ρ => kd.bk ρ
@[simp ↓] def dCont : TDs := fun kd ρ => kd.ct ρ
theorem ds_break : DS X E (.Break pos) dBrk := ds_of ps_break fun B F ρ σ H kd D S q n m => n.bk _ _ _ _ q (Ex.rf _) S
theorem ds_continue : DS X E (.Continue pos) dCont := ds_of ps_continue fun B F ρ σ H kd D S q n m => n.ct _ _ _ _ q (Ex.rf _) S
theorem ds_doc {s : Str} {j : Nat} {p : Pos} : DS X E (.Expr (.Constant (.str s) j pos) p) dNext := ds_of ps_doc fun B F ρ σ H kd D S q n m => n.nx _ _ _ _ q (Ex.rf _) S
end

def ItD (K : PySem.W.Frag) (rs : Rs) (J : It) (F : Hp) (ds : List D) : Prop := ∀ F' H', Ex F F' → Ex F' H' → J.stop ds.length H' ∧ ∀ (i : Nat) d, ds[i]? = some d → J.go i H' ∧ ∀ v H'', J.yld i H' v H'' →
  (H'' = H' ∧ Rp K rs F' v d) ∨ ∃ T o, H' T = none ∧ (∀ ps, o ≠ HO.tbl ps) ∧ H'' = upd H' T o ∧ Rp K rs (upd F' T o) v d
abbrev TDi := List Sl → (List D → List Sl → Prop) → Kx → Prop
def emI (K : PySem.W.Frag) (E : XK) (t : TDi) : TI := fun σ H R => ∃ B F ρ k x, Sat K B F ρ σ H ∧ t ρ k x ∧ (∀ ds ρ' F' J H', k ds ρ' → Ex F F' → Sat K B F' ρ' σ H' → ItD K B.rs J F' ds → R J H') ∧ nX K E B F x
def DI (X : Cx) (E : XK) (tg iter : Expr) (t : TDi) : Prop := PI X tg iter (emI X.K E t)
theorem ItD.mono {K : PySem.W.Frag} {rs : Rs} {J : It} {F F' : Hp} {ds : List D} (h : ItD K rs J F ds) (e : Ex F F') : ItD K rs J F' ds := fun G H' e' => h G H' (e.tr e')
theorem ItD.step {K : PySem.W.Frag} {B : Bs} {J : It} {F F' : Hp} {ds : List D} (h : ItD K B.rs J F ds) (e : Ex F F') {ρ : List Sl} {σ : L2.St} {H : Hp} (S : Sat K B F' ρ σ H) {i : Nat} {d : D} (hi : ds[i]? = some d) :
    J.go i H ∧ ∀ v H'', J.yld i H v H'' → ∃ F'', Ex F' F'' ∧ Sat K B F'' ρ σ H'' ∧ Rp K B.rs F'' v d := by
  obtain ⟨h1, h2⟩ := (h F' H e S.fh).2 i d hi
  refine ⟨h1, fun v H'' y => ?_⟩
  rcases h2 v H'' y with ⟨rfl, r⟩ | ⟨T, o, hT, hto, rfl, r⟩
  · exact ⟨F', Ex.rf _, S, r⟩
  · exact ⟨_, Ex.up (S.toGr.fresh hT).1, S.laidF hT hto, r⟩
def dForL (g : TDg) (tb : TDs) (kd : KD) : List D → List Sl → Prop
  | [], ρ => kd.nx ρ
  | d :: ds, ρ => g d ρ fun ρ1 => tb { kd with nx := fun ρ2 => dForL g tb kd ds ρ2, ct := fun ρ2 => dForL g tb kd ds ρ2, bk := kd.nx } ρ1
structure Tok {α : Type} (a : α) : Type where
  mk ::
def ForR (g : TDg) (tb : TDs) (kd : KD) (_ : Tok kd) (ds : List D) (ρ : List Sl) : Prop := dForL g tb kd ds ρ
@[simp ↓] def dFor (ti : TDi) (g : TDg) (tb : TDs) : TDs := fun kd ρ => ti ρ (fun ds ρ1 => ForR g tb kd ⟨⟩ ds ρ1) kd.x
theorem drop_cons {α : Type} {ds : List α} {i : Nat} {d : α} (h : ds[i]? = some d) : ds.drop i = d :: ds.drop (i + 1) := by
  obtain ⟨hi, e⟩ := List.getElem?_eq_some_iff.mp h
  rw [List.drop_eq_getElem_cons hi, e]
theorem ds_for {X : Cx} {E : XK} {tg iter : Expr} {body : List Stmt} {ti : TDi} {is : List Nat} {g : TDg} {tb : TDs} {pos : Pos} (hp : PassesOwn (model X.prog X.w) X.A X.env X.xe) (hc : X.calm = true) (hi : DI X E tg iter ti) (hg : DG X tg is g) (hb : DSs X E body tb)
    (hs : ∀ x, foldedSetIterable iter X.env x = pure x := by intro _; rfl) : DS X E (.For tg iter body [] pos) (dFor ti g tb) :=
  ds_of (ps_for hp hc hi hg hb hs) fun B F ρ σ H kd D S q n m => by
    refine ⟨B, F, ρ, _, kd.x, S, q, fun ds ρ1 F1 J H1 q1 e1 S1 it => ?_, m⟩
    refine ⟨fun i m' σ' H' => m' = ds.length - i ∧ i ≤ ds.length ∧ ∃ F' ρ', Ex F1 F' ∧ Sat X.K B F' ρ' σ' H' ∧ dForL g tb kd (ds.drop i) ρ', ⟨_, rfl, Nat.zero_le _, F1, ρ1, Ex.rf _, S1, q1⟩, ?_⟩
    rintro i m' σ' H' ⟨rfl, hle, F', ρ', e2, S2, q2⟩
    cases hd : ds[i]? with
    | none =>
      have hl : i = ds.length := Nat.le_antisymm hle (List.getElem?_eq_none_iff.mp hd)
      subst hl
      rw [List.drop_length] at q2
      exact .inl ⟨(it F' H' e2 S2.fh).1, n.nx _ _ _ _ q2 (e1.tr e2) S2⟩
    | some d =>
      have hlt : i < ds.length := (List.getElem?_eq_some_iff.mp hd).1
      rw [drop_cons hd] at q2
      obtain ⟨h1, h2⟩ := it.step e2 S2 hd
      refine .inr ⟨h1, fun σ3 H3 => ∃ F3 ρ3, Ex F' F3 ∧ Sat X.K B F3 ρ3 σ3 H3 ∧ dForL g tb kd (ds.drop (i + 1)) ρ3, fun σ3 H3 ⟨F3, ρ3, e3, S3, q3⟩ => ⟨ds.length - (i + 1), by omega, rfl, hlt, F3, ρ3, e2.tr e3, S3, q3⟩, fun v H'' y => ?_⟩
      obtain ⟨F4, e4, S4, r4⟩ := h2 v H'' y
      refine ⟨B, F4, ρ', d, _, S4, r4, q2, fun ρ5 σ5 q5 S5 _ _ => ?_⟩
      have en := (e1.tr e2).tr e4
      exact ⟨B, F4, ρ5, _, S5, q5, ⟨fun ρ6 F6 σ6 H6 q6 e6 S6 => ⟨F6, ρ6, e4.tr e6, S6, q6⟩, fun ρ6 F6 σ6 H6 q6 e6 S6 => n.nx _ _ _ _ q6 (en.tr e6) S6, fun ρ6 F6 σ6 H6 q6 e6 S6 => ⟨F6, ρ6, e4.tr e6, S6, q6⟩,
        fun d' ρ6 F6 σ6 v6 H6 q6 e6 g6 r6 => n.rt _ _ _ _ _ _ q6 (en.tr e6) g6 r6⟩, m.mono en⟩

def DTs (X : Cx) (E : XK) (ifs : List Expr) (t : TDt) : Prop := PTs X ifs (emT X.K E t)
@[simp ↓] def dYes : TDt := fun ρ k _ => k true ρ
theorem dts_nil {X : Cx} {E : XK} : DTs X E [] dYes := ⟨fun pins s σ H Q I ⟨B, F, ρ, k, x, S, q, n, m⟩ => pts_nil.run pins s σ H Q I (n _ _ _ _ q (Ex.rf _) S)⟩
theorem dts_one {X : Cx} {E : XK} {c : Expr} {t : TDt} (h : DT X E c t) : DTs X E [c] t := pts_one h
def dLcL (g : TDg) (tt : TDt) (te : TD) (vs : List Nat) (k : List D → List Sl → Prop) : List D → List D → List Sl → Prop
  | [], xs, ρ => k xs ρ
  | d :: ds, xs, ρ => g d ρ fun ρ1 => tt ρ1 (fun b ρ2 => if b = true then te ρ2 (fun r ρ3 => frz ρ3 r fun y ρ4 => xs.length < 16777216 ∧ dLcL g tt te vs k ds (xs ++ [y]) (wipeS ρ4 vs)) (fun _ _ => False)
      else dLcL g tt te vs k ds xs (wipeS ρ2 vs)) (fun _ _ => False)
def LcR (g : TDg) (tt : TDt) (te : TD) (vs : List Nat) (k : Kn) (_ : Tok k) (ds : List D) (ρ : List Sl) : Prop := dLcL g tt te vs (fun xs ρ2 => k (.d (.lst xs)) ρ2) ds [] ρ
@[simp ↓] def dLc (ti : TDi) (g : TDg) (tt : TDt) (te : TD) (vs : List Nat) : TD := fun ρ k x => ti ρ (fun ds ρ1 => LcR g tt te vs k ⟨⟩ ds (wipeS ρ1 vs)) x
theorem nX0 {K : PySem.W.Frag} {B : Bs} {F : Hp} : nX K E0 B F (fun _ _ => False) := fun _ _ _ _ _ h => h.elim
theorem wipe_get {σ : L2.St} {j : Nat} : ∀ {vs : List Nat}, j ∉ vs → (L2.wipe σ vs)[j]? = σ[j]?
  | [], _ => rfl
  | v :: vs, h => by
    unfold L2.wipe
    rw [List.getElem?_set_ne (fun z => h (by simp [z]))]
    exact wipe_get fun z => h (List.mem_cons_of_mem _ z)
theorem wipe_at {σ : L2.St} {j : Nat} (hj : j < σ.length) : ∀ {vs : List Nat}, j ∈ vs → (L2.wipe σ vs)[j]? = some none
  | v :: vs, h => by
    unfold L2.wipe
    by_cases z : v = j
    · subst z
      rw [List.getElem?_set_self (by rw [L2.wipe_length]; exact hj)]
    · rw [List.getElem?_set_ne z]
      rcases List.mem_cons.mp h with e | h
      · exact absurd e.symm z
      · exact wipe_at hj h
theorem wipe_eq {σ σ' : L2.St} {vs : List Nat} (hl : σ'.length = σ.length) (h : ∀ j : Nat, j ∉ vs → σ'[j]? = σ[j]?) : L2.wipe σ' vs = L2.wipe σ vs := by
  apply List.ext_getElem?
  intro j
  by_cases hj : j ∈ vs
  · by_cases hlt : j < σ.length
    · rw [wipe_at hlt hj, wipe_at (by rw [hl]; exact hlt) hj]
    · rw [List.getElem?_eq_none (by rw [L2.wipe_length]; omega), List.getElem?_eq_none (by rw [L2.wipe_length]; omega)]
  · rw [wipe_get hj, wipe_get hj, h j hj]
theorem wipe_wipe {σ : L2.St} {vs : List Nat} : L2.wipe (L2.wipe σ vs) vs = L2.wipe σ vs := wipe_eq (L2.wipe_length σ vs) fun j hj => wipe_get hj
theorem wipeS_at {ρ : List Sl} {j : Nat} {s : Sl} : ∀ {vs : List Nat}, j ∈ vs → (wipeS ρ vs)[j]? = some s → s = .u
  | v :: vs, h, e => by
    unfold wipeS at e
    by_cases z : v = j
    · subst z
      rw [List.getElem?_set] at e
      simp only [if_true] at e
      split at e
      · cases e; rfl
      · cases e
    · rw [List.getElem?_set_ne z] at e
      rcases List.mem_cons.mp h with q | h
      · exact absurd q.symm z
      · exact wipeS_at h e
theorem Sat.unwipe {K : PySem.W.Frag} {B : Bs} {F H : Hp} {ρ : List Sl} {σ : L2.St} {vs : List Nat} (s : Sat K B F (wipeS ρ vs) (L2.wipe σ vs) H) : Sat K B F (wipeS ρ vs) σ H := by
  refine ⟨s.toGr, by have := s.len; rw [L2.wipe_length] at this; exact this, fun j t ht => ?_, fun a b xs ys w ha hb ea eb => ?_, s.di, fun a j xs p b ha hj => ?_⟩
  · by_cases hj : j ∈ vs
    · cases wipeS_at hj ht; trivial
    · rw [← wipe_get (vs := vs) hj]; exact s.sl j t ht
  · have na : a ∉ vs := fun z => by cases wipeS_at z ha
    have nb : b ∉ vs := fun z => by cases wipeS_at z hb
    exact s.dj a b xs ys w ha hb (by rw [wipe_get na]; exact ea) (by rw [wipe_get nb]; exact eb)
  · have na : a ∉ vs := fun z => by cases wipeS_at z ha
    rw [← wipe_get (vs := vs) na]
    exact s.dc a j xs p b ha hj
theorem NoOwn.unwipe {ρ : List Sl} {σ : L2.St} {vs : List Nat} {p : Addr} (h : NoOwn (wipeS ρ vs) (L2.wipe σ vs) p) : NoOwn (wipeS ρ vs) σ p :=
  ⟨fun j ys hj e => h.o j ys hj (by
    have nj : j ∉ vs := fun z => by cases wipeS_at z hj
    rw [wipe_get nj]; exact e), h.c⟩
theorem lc_run {K : PySem.W.Frag} {g : TDg} {tt : TDt} {te : TD} {vs : List Nat} {B : Bs} {F1 H1 : Hp} {ρ1 : List Sl} {σ : L2.St} {J : It} {ds : List D} {kf : List D → List Sl → Prop} {Q : VK}
    (S1 : Sat K B F1 ρ1 σ H1) (it : ItD K B.rs J F1 ds) (q1 : dLcL g tt te vs kf ds [] (wipeS ρ1 vs)) {Dl : Addr} (hD : H1 Dl = none)
    (fin : ∀ F' ρ' acc xs H', Ex F1 F' → Sat K B F' (wipeS ρ' vs) σ H' → kf xs (wipeS ρ' vs) → H' Dl = some (.lst acc) → RpL K B.rs F' acc xs → F' Dl = none → B.H0 Dl = none → (∀ x ∈ B.hl, x.1 ≠ Dl) →
      NoOwn (wipeS ρ' vs) σ Dl → Q (.ref Dl) H') :
    ∃ W : Nat → Nat → Hp → Prop, (∃ m, W 0 m (upd H1 Dl (.lst []))) ∧ ∀ i m H, W i m H →
      (J.stop i H ∧ Q (.ref Dl) H) ∨ (J.go i H ∧ ∃ Nx : Hp → Prop, (∀ H', Nx H' → ∃ m', m' < m ∧ W (i + 1) m' H') ∧ ∀ x H', J.yld i H x H' → emG K vs g x (L2.wipe σ vs) H' fun σ2 H2 => L2.wipe σ2 vs = L2.wipe σ vs ∧ emT K E0 tt σ2 H2 fun b H3 =>
        if b = true then emE K E0 te σ2 H3 fun y H4 => ∃ acc, H4 Dl = some (.lst acc) ∧ acc.length < sizeLine ∧ Nx (upd H4 Dl (.lst (acc ++ [y]))) else Nx H3) := by
  have nD : ∀ x ∈ B.hl, x.1 ≠ Dl := fun x hx => ne_of_none (S1.hd x hx).1 hD
  refine ⟨fun i m H => m = ds.length - i ∧ i ≤ ds.length ∧ ∃ F' ρ' acc xs, Ex F1 F' ∧ Sat K { B with hl := (Dl, .lst acc) :: B.hl } F' (wipeS ρ' vs) (L2.wipe σ vs) H ∧ RpL K B.rs F' acc xs ∧ dLcL g tt te vs kf (ds.drop i) xs (wipeS ρ' vs),
    ⟨_, rfl, Nat.zero_le _, F1, ρ1, [], [], Ex.rf _, (S1.wipe vs).hold hD, .nil, q1⟩, ?_⟩
  rintro i m H ⟨rfl, hle, F', ρ', acc, xs, e2, S2, ra, q2⟩
  cases hd : ds[i]? with
  | none =>
    have hl : i = ds.length := Nat.le_antisymm hle (List.getElem?_eq_none_iff.mp hd)
    subst hl
    rw [List.drop_length] at q2
    obtain ⟨S3, h1, h2, h3, h4⟩ := Sat.letgo (B := { B with hl := (Dl, .lst acc) :: B.hl }) rfl S2
    refine .inl ⟨(it F' H e2 S2.fh).1, fin F' ρ' acc xs H e2 S3.unwipe q2 h1 ra h2 h3 nD h4.unwipe⟩
  | some d =>
    have hlt : i < ds.length := (List.getElem?_eq_some_iff.mp hd).1
    rw [drop_cons hd] at q2
    obtain ⟨h1, h2⟩ := ItD.step (B := { B with hl := (Dl, .lst acc) :: B.hl }) it e2 S2 hd
    refine .inr ⟨h1, fun H3 => ∃ F3 ρ3 acc3 xs3, Ex F' F3 ∧ Sat K { B with hl := (Dl, .lst acc3) :: B.hl } F3 (wipeS ρ3 vs) (L2.wipe σ vs) H3 ∧ RpL K B.rs F3 acc3 xs3 ∧ dLcL g tt te vs kf (ds.drop (i + 1)) xs3 (wipeS ρ3 vs),
      fun H3 ⟨F3, ρ3, acc3, xs3, e3, S3, r3, q3⟩ => ⟨ds.length - (i + 1), by omega, rfl, hlt, F3, ρ3, acc3, xs3, e2.tr e3, S3, r3, q3⟩, fun v H'' y => ?_⟩
    obtain ⟨F4, e4, S4, r4⟩ := h2 v H'' y
    refine ⟨_, F4, wipeS ρ' vs, d, _, S4, r4, q2, fun ρ5 σ5 q5 S5 l5 z5 => ?_⟩
    have hw : L2.wipe σ5 vs = L2.wipe σ vs := by
      rw [wipe_eq l5 z5, wipe_wipe]
    refine ⟨hw, _, F4, ρ5, _, _, S5, q5, fun b ρ6 F6 H6 q6 e6 S6 => ?_, nX0⟩
    cases b with
    | true =>
      simp only [if_true] at q6 ⊢
      refine ⟨_, F6, ρ6, _, _, S6, q6, fun r ρ7 F7 w H7 q7 e7 S7 r7 => ?_, nX0⟩
      obtain ⟨yd, ρ8, F8, ⟨hl8, q8⟩, e8, S8, r8⟩ := Rv.frz S7 r7 q7
      refine ⟨acc, (S8.hd (Dl, .lst acc) List.mem_cons_self).1, by rw [ra.length, sizeLine_eq]; exact hl8, ?_⟩
      have en : Ex F' F8 := ((e4.tr e6).tr e7).tr e8
      have S9 := (S8.wipe vs).heldW (o' := .lst (acc ++ [w])) rfl nD (NL.lst rfl) (by intro _ z; cases z)
      rw [hw] at S9
      exact ⟨F8, ρ8, acc ++ [w], xs ++ [yd], en, S9, (ra.mono en).append (.cons r8 .nil), q8⟩
    | false =>
      simp only [Bool.false_eq_true, if_false] at q6 ⊢
      have S9 := S6.wipe vs
      rw [hw] at S9
      exact ⟨F6, ρ6, acc, xs, e4.tr e6, S9, ra.mono (e4.tr e6), q6⟩
section
variable {X : Cx} {E : XK} {elt tg iter : Expr} {ifs : List Expr} {scope : Scope} {own : List (Str × Nat)} {pos : Pos} {ti : TDi} {g : TDg} {tt : TDt} {te : TD}
theorem de_lc (hc : X.calm = true) (hN : X.N.Nodup) (hi : DI X E tg iter ti) (ok : BlkOk X.N X.env.scope scope own)
    (hg : ∀ (s : Shared) (H : Hp) (C : Addr) (cl : List (Str × Addr)) (fp : List Addr), DG (X.blk s H scope (compEnvC scope cl C X.env) fp) tg (own.map (·.2)) g) (ht : ∀ (s : Shared) (H : Hp) (C : Addr) (cl : List (Str × Addr)) (fp : List Addr), DTs (X.blk s H scope (compEnvC scope cl C X.env) fp) E0 ifs tt)
    (he : ∀ (s : Shared) (H : Hp) (C : Addr) (cl : List (Str × Addr)) (fp : List Addr), DE (X.blk s H scope (compEnvC scope cl C X.env) fp) E0 elt te) (hs : ∀ x, foldedSetIterable iter X.env x = pure x := by intro _; rfl) :
    DE X E (.ListComp elt [⟨tg, iter, ifs, 0⟩] scope pos) (dLc ti g tt te (own.map (·.2))) :=
  de_of (pe_lc (g := emG X.K (own.map fun (p : Str × Nat) => p.2) g) (tt := emT X.K E0 tt) (te := emE X.K E0 te) hc hN hi ok hg ht he hs) fun B F ρ σ H k x Q S q n m => by
    refine ⟨B, F, ρ, _, x, S, q, fun ds ρ1 F1 J H1 q1 e1 S1 it => fun Dl hD => ?_, m⟩
    refine lc_run S1 it q1 hD fun F' ρ' acc xs H' e2 S2 q2 h1 ra h2 h3 h4 h5 => ?_
    have e3 : Ex F' (upd F' Dl (.lst acc)) := Ex.up h2
    exact n _ _ _ _ _ q2 ((e1.tr e2).tr e3) (S2.knowL h1 h3 h2 h4 h5) (Rp.lst upd_same (ra.mono e3))
theorem ds_setLc {i : Nat} {y : Str} {py spos : Pos} (hc : X.calm = true) (hN : X.N.Nodup) (hy : X.N[i]? = some y) (hyl : X.env.scope.names.lookup y = some .local)
    (hsw : swapsWith (.ListComp elt [⟨tg, iter, ifs, 0⟩] scope pos) (some (.Name y py)) spos.line X.env = pure true) (hi : DI X E tg iter ti) (ok : BlkOk X.N X.env.scope scope own)
    (hg : ∀ (s : Shared) (H : Hp) (C : Addr) (cl : List (Str × Addr)) (fp : List Addr), DG (X.blk s H scope (compEnvC scope cl C X.env) fp) tg (own.map (·.2)) g) (ht : ∀ (s : Shared) (H : Hp) (C : Addr) (cl : List (Str × Addr)) (fp : List Addr), DTs (X.blk s H scope (compEnvC scope cl C X.env) fp) E0 ifs tt)
    (he : ∀ (s : Shared) (H : Hp) (C : Addr) (cl : List (Str × Addr)) (fp : List Addr), DE (X.blk s H scope (compEnvC scope cl C X.env) fp) E0 elt te) (hs : ∀ x, foldedSetIterable iter X.env x = pure x := by intro _; rfl) :
    DS X E (.Assign [.Name y py] (.ListComp elt [⟨tg, iter, ifs, 0⟩] scope pos) spos) (dSet i (dLc ti g tt te (own.map (·.2)))) :=
  ds_ofN (ps_setLc (g := emG X.K (own.map fun (p : Str × Nat) => p.2) g) (tt := emT X.K E0 tt) (te := emE X.K E0 te) hc hN hy hyl hsw hi ok hg ht he hs) fun B F ρ σ H kd D hn S q n m => by
    refine ⟨B, F, ρ, _, kd.x, S, q, fun ds ρ1 F1 J H1 q1 e1 S1 it => fun Dl hD => ?_, m⟩
    refine lc_run (Q := fun x H1 => gName i x σ H1 D.nx) S1 it q1 hD fun F' ρ' acc xs H' e2 S2 q2 h1 ra h2 h3 h4 h5 => ?_
    have e3 : Ex F' (upd F' Dl (.lst acc)) := Ex.up h2
    exact n.nx _ _ _ _ q2 ((e1.tr e2).tr e3) ((S2.knowL h1 h3 h2 h4 h5).setD i (Rp.lst upd_same (ra.mono e3)) (ix_lt hn hy))
end

def st0 (N : Nat) (ds : List D) : List Sl := ds.map Sl.d ++ List.replicate (N - ds.length) Sl.u
theorem fnD {P : Program} {w : World} {K : PySem.W.Frag} {mg : Str → Option Value} {base : Heap} {x qual : Str} {st : Stmt} {f : Addr} {fd : FuncData} {N ps : List Str} {j : Nat} {T : TF} {t : TDs}
    (Fn : Fun K x qual st f fd) (Sc : FnScope N ps (defScope st)) (hT : ∀ ds k x, T ds k x → ds.length = ps.length)
    (hd : ∀ (cdv : Value) (A : Around) (outer : List Env) (s : Shared) (H : Hp) (E : XK), Room j (A.deeper (envOfC qual (defScope st) s.heap.objs.size f cdv)) →
      DSs (cxOf (L2.CX P w) P w K mg base N qual (defScope st) f cdv A outer s H E) E (defBody st) t)
    (vc : ∀ ds k x, T ds k x → t { nx := fun _ => k .non, rt := fun _ => k, bk := fun _ => False, ct := fun _ => False, x := x } (st0 N.length ds)) :
    FnOk P w K mg base (L2.CX P w) (j + 1) f fd ps (spD K T) := by
  refine Fn.okX Sc (spD_len hT) fun cdv A outer s H vs Q E hr ⟨rs, F, ds, k, x, g, r, q, n, m⟩ => ⟨_, hd cdv A outer s H E hr, ?_⟩
  have hl : ds.length = ps.length := hT _ _ _ q
  have hlv := r.length
  have hN : ps.length ≤ N.length := by
    have e := congrArg List.length Sc.pre
    rw [List.length_take] at e
    omega
  refine ⟨⟨rs, F, H, [], []⟩, F, st0 N.length ds, _, ⟨g, ?_, fun i s hs => ?_, fun a b xs ys w ha hb ea eb => ?_, fun a b p1 b1 b2 ha hb => ?_, fun a b xs p1 b1 ha hb => ?_⟩, vc ds k x q, ⟨fun ρ' F' σ' H' q' e' S' => n .non F' .non H' q' S'.toGr .non, fun _ _ _ _ q' => q'.elim, fun _ _ _ _ q' => q'.elim, fun d ρ' F' σ' v H' q' e' S' r' => n d F' v H' q' S'.toGr r'⟩, fun C m' F' c H' q' e' g' o => m C m' F' c H' q' g' o⟩
  · unfold L2.start st0
    simp only [List.length_append, List.length_map, List.length_replicate]
    omega
  · unfold st0 at hs
    by_cases hi : i < ds.length
    · rw [List.getElem?_append_left (by simpa using hi), List.getElem?_map] at hs
      cases ed : ds[i]? with
      | none => rw [ed] at hs; cases hs
      | some d =>
        rw [ed] at hs
        cases hs
        obtain ⟨v, h1, h2⟩ := r.get ed
        refine ⟨v, ?_, h2⟩
        unfold L2.start
        rw [List.getElem?_append_left (by simp; omega), List.getElem?_map, h1]
        rfl
    · rw [List.getElem?_append_right (by simpa using hi)] at hs
      rw [List.getElem?_replicate] at hs
      split at hs
      · cases hs; trivial
      · cases hs
  · exfalso
    unfold st0 at ha
    by_cases hi : a < ds.length
    · rw [List.getElem?_append_left (by simpa using hi), List.getElem?_map] at ha
      cases ed : ds[a]? with
      | none => rw [ed] at ha; cases ha
      | some d => rw [ed] at ha; cases ha
    · rw [List.getElem?_append_right (by simpa using hi), List.getElem?_replicate] at ha
      split at ha <;> cases ha
  · exfalso
    unfold st0 at ha
    by_cases hi : a < ds.length
    · rw [List.getElem?_append_left (by simpa using hi), List.getElem?_map] at ha
      cases ed : ds[a]? with
      | none => rw [ed] at ha; cases ha
      | some d => rw [ed] at ha; cases ha
    · rw [List.getElem?_append_right (by simpa using hi), List.getElem?_replicate] at ha
      split at ha <;> cases ha
  · exfalso
    unfold st0 at ha
    by_cases hi : a < ds.length
    · rw [List.getElem?_append_left (by simpa using hi), List.getElem?_map] at ha
      cases ed : ds[a]? with
      | none => rw [ed] at ha; cases ha
      | some d => rw [ed] at ha; cases ha
    · rw [List.getElem?_append_right (by simpa using hi), List.getElem?_replicate] at ha
      split at ha <;> cases ha
theorem passD {X : Cx} {E : XK} (tk : Takes X fun cls d _ H => E cls d H) : Passes (L2.CX X.prog X.w) X E := passes_call tk fun _ _ _ _ h => h
end DL
namespace DL
open PySem PySem.Spec PyProof.Rows L2

section
variable {X : Cx} {tg l : Expr}
def iAny (K : PySem.W.Frag) (tl : TE) : TI := fun σ H R => tl σ H fun x H1 => (∃ a, x = .ref a ∧ (∃ xs, SqL K H1 a xs) ∧ R (Itl K a) H1) ∨ (∃ a, x = .ref a ∧ (∃ xs, SqT K H1 a xs) ∧ R (Itt K a) H1) ∨ ∃ z, x = .str z ∧ R (Its z) H1
theorem pe_any {e : Expr} {te : TE} {Q : V → Hp → Prop} {pins : List (Addr × Obj)} {s : Shared} {σ : L2.St} {H : Hp} (h : PE X e te) (I : Inv X pins σ H s) (q : te σ H Q) : wpAny (model X.prog X.w) X.A (eval e X.env) (EP X pins σ Q) X.xe s := h.run pins s σ H Q I q
theorem pi_any {tl : TE} (hl : PE X l tl) : PI X tg l (iAny X.K tl) := by
  refine ⟨fun pins s σ H R I h => ?_⟩
  refine thn (pe_any hl I h) fun v s1 hh => ?_
  obtain ⟨x, H1, I1, r1, q1⟩ := hh
  have fresh : ∀ b ∈ [s1.heap.objs.size], FpOk X pins H1 b := fun b hb => by
    rcases List.mem_cons.mp hb with rfl | hb
    · exact I1.fpOk (Nat.le_refl _) (I1.hok.fresh (Nat.le_refl _))
    · cases hb
  rcases q1 with ⟨a, rfl, ⟨xs, hq⟩, q⟩ | ⟨a, rfl, ⟨xs, hq⟩, q⟩ | ⟨z, rfl, q⟩
  · obtain rfl : v = .ref a := r1
    obtain ⟨its, rv, pl, _⟩ := I1.list hq
    exact wpAny_pyIter_list pl.isList ⟨_, _, _, _, H1, rfl, I1.kept (t' := s1.toks) fun _ _ e => Heap.get?_push_of_some _ e, turn_list a _, ⟨_, Heap.get?_push_size _ rfl, rfl, rfl⟩, fresh, q⟩
  · obtain rfl : v = .ref a := r1
    obtain ⟨its, rv, pl, _⟩ := I1.tuple hq
    exact wpAny_pyIter_tuple (items := its.toArray) pl ⟨_, _, _, _, H1, rfl, I1.kept (t' := s1.toks) fun _ _ e => Heap.get?_push_of_some _ e, turn_tuple a _, ⟨_, Heap.get?_push_size _ rfl, rfl, rfl⟩, fresh, q⟩
  · obtain ⟨t, rfl⟩ := r1
    cases c : z.cps.all (· < 128) with
    | false => exact wpAny_pyIter_wide c (pi_one (tk := s1.toks) I1 _ (turn_str _ z t _ (.inr rfl)) ⟨_, Heap.get?_push_size _ rfl, rfl, rfl⟩ q)
    | true => exact wpAny_pyIter_ascii c (pi_one (tk := s1.toks) I1 _ (turn_str _ z t _ (.inl rfl)) ⟨_, Heap.get?_push_size _ rfl, rfl, rfl⟩ q)
end
@[simp ↓] def itemsOf (d : D) (k : List D → Prop) : Prop := match d with
  | .lst xs => k xs
  | .tup xs => k xs
  | .str z => k (z.cps.toList.map fun c => .str ⟨#[c]⟩)
  | _ => False
section
variable {K : PySem.W.Frag} {rs : Rs} {F : Hp} {a b : Addr} {vs ws : List V} {ds es : List D}
theorem it_lst (h : F a = some (.lst vs)) (r : RpL K rs F vs ds) : ItD K rs (Itl K a) F ds := fun F' H' e1 e2 => by
  have h' := SqL.of (K := K) (e2 _ _ (e1 _ _ h))
  refine ⟨⟨vs, h', by rw [r.length]; exact Nat.le_refl _⟩, fun i d hi => ?_⟩
  obtain ⟨v, hv, rv⟩ := r.get hi
  refine ⟨⟨vs, v, h', hv⟩, fun x H'' ⟨e, y⟩ => .inl ⟨e, ?_⟩⟩
  have e3 := y vs h'
  rw [hv] at e3
  cases e3
  exact rv.mono e1
theorem it_tup (h : SqT K F a vs) (r : RpL K rs F vs ds) : ItD K rs (Itt K a) F ds := fun F' H' e1 e2 => by
  have h' := exT e2 (exT e1 h)
  refine ⟨⟨vs, h', by rw [r.length]; exact Nat.le_refl _⟩, fun i d hi => ?_⟩
  obtain ⟨v, hv, rv⟩ := r.get hi
  refine ⟨⟨vs, v, h', hv⟩, fun x H'' ⟨e, y⟩ => .inl ⟨e, ?_⟩⟩
  have e3 := y vs h'
  rw [hv] at e3
  cases e3
  exact rv.mono e1
theorem it_str {z : Str} (so : SOk z) : ItD K rs (Its z) F (z.cps.toList.map fun c => .str ⟨#[c]⟩) := fun F' H' e1 e2 => by
  refine ⟨by show z.cps.size ≤ _; simp, fun i d hi => ?_⟩
  rw [List.getElem?_map] at hi
  cases hc : z.cps.toList[i]? with
  | none => rw [hc] at hi; cases hi
  | some c =>
    rw [hc] at hi
    cases hi
    have hlt : i < z.cps.toList.length := (List.getElem?_eq_some_iff.mp hc).1
    refine ⟨by show i < z.cps.size; simpa using hlt, fun x H'' ⟨e, c', hc', ex⟩ => .inl ⟨e, ?_⟩⟩
    have e3 : z.cps.toList[i]? = some c' := by simpa using hc'
    rw [hc] at e3
    cases e3
    subst ex
    exact .str _ (sok_one so (List.mem_of_getElem? hc))
theorem it_rng {n : Nat} : ItD K rs (Itr 0 n) F ((List.range n).map fun i => .int (i : Nat)) := fun F' H' e1 e2 => by
  refine ⟨by show n ≤ _; simp, fun i d hi => ?_⟩
  rw [List.getElem?_map] at hi
  by_cases hlt : i < n
  · rw [List.getElem?_range hlt] at hi
    cases hi
    refine ⟨hlt, fun x H'' ⟨e, ex⟩ => .inl ⟨e, ?_⟩⟩
    subst ex
    rw [Int.zero_add]
    exact .int _
  · rw [List.getElem?_eq_none (by simpa using hlt)] at hi
    cases hi
def enumD (n : Nat) : List D → List D
  | [] => []
  | d :: ds => .tup [.int (n : Nat), d] :: enumD (n + 1) ds
theorem enumD_get : ∀ {ds : List D} {n i : Nat}, (enumD n ds)[i]? = (ds[i]?).map fun d => .tup [.int ((n + i : Nat) : Int), d]
  | [], n, i => by simp [enumD]
  | d :: ds, n, 0 => by simp [enumD]
  | d :: ds, n, i + 1 => by
    have ih := enumD_get (ds := ds) (n := n + 1) (i := i)
    simp only [enumD, List.getElem?_cons_succ, ih]
    have e : n + 1 + i = n + (i + 1) := by omega
    rw [e]
theorem enumD_length : ∀ {ds : List D} {n : Nat}, (enumD n ds).length = ds.length
  | [], _ => rfl
  | d :: ds, n => by simp [enumD, enumD_length]
theorem it_enum (h : F a = some (.lst vs)) (r : RpL K rs F vs ds) : ItD K rs (Ite K a) F (enumD 0 ds) := fun F' H' e1 e2 => by
  have h' := SqL.of (K := K) (e2 _ _ (e1 _ _ h))
  refine ⟨⟨vs, h', by rw [enumD_length, r.length]; exact Nat.le_refl _⟩, fun i d hi => ?_⟩
  rw [enumD_get] at hi
  cases hd : ds[i]? with
  | none => rw [hd] at hi; cases hi
  | some d0 =>
    rw [hd] at hi
    cases hi
    obtain ⟨v, hv, rv⟩ := r.get hd
    refine ⟨⟨vs, v, h', hv⟩, fun x H'' ⟨T, w, ex, hT, eH, y⟩ => .inr ⟨T, _, hT, (by intro _ z; cases z), eH, ?_⟩⟩
    have e3 := y vs h'
    rw [hv] at e3
    cases e3
    subst ex
    have e4 : Ex F' (upd F' T (.tup [.int (i : Nat), v])) := Ex.up (e2.back hT)
    rw [Nat.zero_add]
    exact .tup (SqT.of upd_same) (.cons (.int _) (.cons ((rv.mono e1).mono e4) .nil))
def zipD : List D → List D → List D
  | d :: ds, e :: es => .tup [d, e] :: zipD ds es
  | _, _ => []
theorem zipD_get : ∀ {ds es : List D} {i : Nat} {x : D}, (zipD ds es)[i]? = some x → ∃ d e, ds[i]? = some d ∧ es[i]? = some e ∧ x = .tup [d, e]
  | d :: ds, e :: es, 0, x, h => by
    simp [zipD] at h
    exact ⟨d, e, rfl, rfl, h.symm⟩
  | d :: ds, e :: es, i + 1, x, h => by
    obtain ⟨d', e', h1, h2, h3⟩ := zipD_get (ds := ds) (es := es) (i := i) (x := x) (by simpa [zipD] using h)
    exact ⟨d', e', by simpa using h1, by simpa using h2, h3⟩
  | [], _, _, _, h => by simp [zipD] at h
  | _ :: _, [], _, _, h => by simp [zipD] at h
theorem zipD_length : ∀ {ds es : List D}, (zipD ds es).length = min ds.length es.length
  | d :: ds, e :: es => by simp only [zipD, List.length_cons, zipD_length]; omega
  | [], _ => by simp [zipD]
  | _ :: _, [] => by simp [zipD]
theorem it_zip (h : F a = some (.lst vs)) (r : RpL K rs F vs ds) (h2 : F b = some (.lst ws)) (r2 : RpL K rs F ws es) : ItD K rs (Itz K a b) F (zipD ds es) := fun F' H' e1 e2 => by
  have h' := SqL.of (K := K) (e2 _ _ (e1 _ _ h))
  have h2' := SqL.of (K := K) (e2 _ _ (e1 _ _ h2))
  refine ⟨⟨vs, ws, h', h2', by rw [zipD_length, r.length, r2.length]; omega⟩, fun i x hi => ?_⟩
  obtain ⟨d, e, hd, he, rfl⟩ := zipD_get hi
  obtain ⟨v, hv, rv⟩ := r.get hd
  obtain ⟨w, hw, rw'⟩ := r2.get he
  refine ⟨⟨vs, ws, v, w, h', h2', hv, hw⟩, fun x H'' ⟨T, p, q, ex, hT, eH, y1, y2⟩ => .inr ⟨T, _, hT, (by intro _ z; cases z), eH, ?_⟩⟩
  have e3 := y1 vs h'
  rw [hv] at e3
  cases e3
  have e4 := y2 ws h2'
  rw [hw] at e4
  cases e4
  subst ex
  have e5 : Ex F' (upd F' T (.tup [v, w])) := Ex.up (e2.back hT)
  exact .tup (SqT.of upd_same) (.cons ((rv.mono e1).mono e5) (.cons ((rw'.mono e1).mono e5) .nil))
theorem it_zipT (h : SqT K F a vs) (r : RpL K rs F vs ds) (h2 : SqT K F b ws) (r2 : RpL K rs F ws es) : ItD K rs (RZ.ItzT K a b) F (zipD ds es) := fun F' H' e1 e2 => by
  have h' := exT e2 (exT e1 h)
  have h2' := exT e2 (exT e1 h2)
  refine ⟨⟨vs, ws, h', h2', by rw [zipD_length, r.length, r2.length]; omega⟩, fun i x hi => ?_⟩
  obtain ⟨d, e, hd, he, rfl⟩ := zipD_get hi
  obtain ⟨v, hv, rv⟩ := r.get hd
  obtain ⟨w, hw, rw'⟩ := r2.get he
  refine ⟨⟨vs, ws, v, w, h', h2', hv, hw⟩, fun x H'' ⟨T, p, q, ex, hT, eH, y1, y2⟩ => .inr ⟨T, _, hT, (by intro _ z; cases z), eH, ?_⟩⟩
  have e3 := y1 vs h'
  rw [hv] at e3
  cases e3
  have e4 := y2 ws h2'
  rw [hw] at e4
  cases e4
  subst ex
  have e5 : Ex F' (upd F' T (.tup [v, w])) := Ex.up (e2.back hT)
  exact .tup (SqT.of upd_same) (.cons ((rv.mono e1).mono e5) (.cons ((rw'.mono e1).mono e5) .nil))
end
section
variable {X : Cx} {E : XK} {tg e e2 : Expr} {t u : TD} {ta : TDa} {p pos tpos : Pos} {elts : List Expr} {kk : Nat}
theorem PI.imp {w w' : TI} (h : PI X tg e w) (i : ∀ σ H R, w' σ H R → w σ H R) : PI X tg e w' := ⟨fun pins s σ H R I q => h.run pins s σ H R I (i σ H R q)⟩
@[simp ↓] def dIt (t : TD) : TDi := fun ρ k x => t ρ (fun r ρ1 => frz ρ1 r fun d ρ2 => itemsOf d fun ds => k ds ρ2) x
theorem di_any (h : DE X E e t) : DI X E tg e (dIt t) := PI.imp (pi_any h) fun σ H R ⟨B, F, ρ, k, x, S, q, n, m⟩ => ⟨B, F, ρ, _, x, S, q, fun r ρ1 F1 v H1 q1 e1 S1 r1 => by
  obtain ⟨d, ρ2, F2, q2, ex2, S2, r2⟩ := Rv.frz S1 r1 q1
  unfold itemsOf at q2
  split at q2
  · cases r2 with
    | lst h r => exact .inl ⟨_, rfl, ⟨_, SqL.of (S2.fh _ _ h)⟩, n _ _ _ _ _ q2 (e1.tr ex2) S2 (it_lst h r)⟩
  · cases r2 with
    | tup h r => exact .inr (.inl ⟨_, rfl, ⟨_, exT S2.fh h⟩, n _ _ _ _ _ q2 (e1.tr ex2) S2 (it_tup h r)⟩)
  · cases r2 with
    | str _ so => exact .inr (.inr ⟨_, rfl, n _ _ _ _ _ q2 (e1.tr ex2) S2 (it_str so)⟩)
  · exact q2.elim, m⟩
@[simp ↓] def dRng (ta : TDa) : TDi := fun ρ k x => ta ρ (fun rs ρ1 => ∃ j : Int, rs = [.d (.int j)] ∧ j < 4611686018427387904 ∧ -4611686018427387904 ≤ j ∧ k ((List.range j.toNat).map fun i => .int (i : Nat)) ρ1) x
theorem di_rng (hg : Gl X "range") (hm : X.mg "range" = none) (ha : DA X E [e] ta) (hs : starEach [e] X.env = [(false, eval e X.env)] := by rfl) : DI X E tg (.Call (.Name "range" p) [e] [] pos) (dRng ta) :=
  PI.imp (pi_range1 hg hm ha hs) fun σ H R ⟨B, F, ρ, k, x, S, q, n, m⟩ => ⟨B, F, ρ, _, x, S, q, fun rs ρ1 F1 vs H1 ⟨j, er, h1, h2, q1⟩ e1 S1 r1 => by
    subst er
    obtain ⟨v, rfl, rv⟩ := pone r1
    cases (show Rp X.K B.rs F1 v (.int j) from rv)
    exact ⟨j, rfl, by omega, by omega, n _ _ _ _ _ q1 e1 S1 it_rng⟩, m⟩
@[simp ↓] def dEnum (ta : TDa) : TDi := fun ρ k x => ta ρ (fun rs ρ1 => frzs ρ1 rs fun ds ρ2 => ∃ xs, ds = [.lst xs] ∧ k (enumD 0 xs) ρ2) x
theorem di_enum (hg : Gl X "enumerate") (hm : X.mg "enumerate" = none) (ha : DA X E [e] ta) (hs : starEach [e] X.env = [(false, eval e X.env)] := by rfl) : DI X E (.Tuple elts kk tpos) (.Call (.Name "enumerate" p) [e] [] pos) (dEnum ta) :=
  PI.imp (pi_enum hg hm ha hs) fun σ H R ⟨B, F, ρ, k, x, S, q, n, m⟩ => ⟨B, F, ρ, _, x, S, q, fun rs ρ1 F1 vs H1 q1 e1 S1 r1 => by
    obtain ⟨ds, ρ2, F2, ⟨xs, ed, q2⟩, ex2, S2, r2⟩ := frzs_ok S1 r1 q1
    subst ed
    cases r2 with
    | cons r3 r4 =>
      cases r4
      cases r3 with
      | lst h r => exact ⟨_, _, rfl, SqL.of (S2.fh _ _ h), n _ _ _ _ _ q2 (e1.tr ex2) S2 (it_enum h r)⟩, m⟩
@[simp ↓] def dZip (ta : TDa) : TDi := fun ρ k x => ta ρ (fun rs ρ1 => frzs ρ1 rs fun ds ρ2 => (∃ xs ys, ds = [.lst xs, .lst ys] ∧ k (zipD xs ys) ρ2) ∨ (∃ xs ys, ds = [.tup xs, .tup ys] ∧ k (zipD xs ys) ρ2)) x
theorem di_zip (hg : Gl X "zip") (hm : X.mg "zip" = none) (ha : DA X E [e, e2] ta) (hs : starEach [e, e2] X.env = (false, eval e X.env) :: starEach [e2] X.env := by rfl) (hpl : (backTo pos (starEach [e2] X.env)).any (·.1) = false := by rfl) :
    DI X E (.Tuple elts kk tpos) (.Call (.Name "zip" p) [e, e2] [] pos) (dZip ta) :=
  PI.imp (RZ.pi_zipA hg hm ha hs hpl) fun σ H R ⟨B, F, ρ, k, x, S, q, n, m⟩ => ⟨B, F, ρ, _, x, S, q, fun rs ρ1 F1 vs H1 q1 e1 S1 r1 => by
    obtain ⟨ds, ρ2, F2, q2, ex2, S2, r2⟩ := frzs_ok S1 r1 q1
    rcases q2 with ⟨xs, ys, ed, q2⟩ | ⟨xs, ys, ed, q2⟩
    · subst ed
      cases r2 with
      | cons r3 r4 =>
        cases r4 with
        | cons r5 r6 =>
          cases r6
          cases r3 with
          | lst h r =>
            cases r5 with
            | lst h' r' => exact ⟨_, _, _, _, rfl, .inl ⟨SqL.of (S2.fh _ _ h), SqL.of (S2.fh _ _ h'), n _ _ _ _ _ q2 (e1.tr ex2) S2 (it_zip h r h' r')⟩⟩
    · subst ed
      cases r2 with
      | cons r3 r4 =>
        cases r4 with
        | cons r5 r6 =>
          cases r6
          cases r3 with
          | tup h r =>
            cases r5 with
            | tup h' r' => exact ⟨_, _, _, _, rfl, .inr ⟨exT S2.fh h, exT S2.fh h', n _ _ _ _ _ q2 (e1.tr ex2) S2 (it_zipT h r h' r')⟩⟩, m⟩
end

abbrev TDf := List Sl → (List D → List Sl → Prop) → Kx → Prop
def nF (K : PySem.W.Frag) (B : Bs) (F : Hp) (σ : L2.St) (k : List D → List Sl → Prop) (Q : VK) : Prop := ∀ xs ρ' F' p vs H', k xs ρ' → Ex F F' → Sat K B F' ρ' σ H' → H' p = some (.lst vs) → RpL K B.rs F' vs xs → F' p = none → B.H0 p = none → (∀ x ∈ B.hl, x.1 ≠ p) →
  NoOwn ρ' σ p → Q (.ref p) H'
def emF (K : PySem.W.Frag) (E : XK) (t : TDf) : TE := fun σ H Q => ∃ B F ρ k x, Sat K B F ρ σ H ∧ t ρ k x ∧ nF K B F σ k Q ∧ nX K E B F x
def DF (X : Cx) (E : XK) (e : Expr) (t : TDf) : Prop := PE X e (emF X.K E t)
theorem Sat.newO {K : PySem.W.Frag} {B : Bs} {F H : Hp} {ρ : List Sl} {σ : L2.St} (S : Sat K B F ρ σ H) {p : Addr} (hp : H p = none) {o : HO} :
    F p = none ∧ B.H0 p = none ∧ (∀ x ∈ B.hl, x.1 ≠ p) ∧ NoOwn ρ σ p := by
  obtain ⟨h1, h2, _⟩ := S.toGr.fresh hp
  refine ⟨h1, h2, fun x hx => ne_of_none (S.hd x hx).1 hp, fun j ys hj e => ?_, fun j b hj => ?_⟩
  · obtain ⟨p', vs, g1, g2, _⟩ := S.sl j _ hj
    rw [g1] at e
    cases e
    rw [hp] at g2
    cases g2
  · obtain ⟨o', g2, _⟩ := S.cell hj
    rw [hp] at g2
    cases g2
section
variable {X : Cx} {E : XK} {e o : Expr} {es : List Expr} {pos apos p : Pos} {t : TDa} {to te : TD}
theorem df_of {te : TE} {t : TDf} (h : PE X e te) (i : ∀ B F ρ σ H k x Q, Sat X.K B F ρ σ H → t ρ k x → nF X.K B F σ k Q → nX X.K E B F x → te σ H Q) : DF X E e t :=
  PE.imp h fun σ H Q ⟨B, F, ρ, k, x, S, q, n, m⟩ => i B F ρ σ H k x Q S q n m
theorem nF.new {K : PySem.W.Frag} {B : Bs} {F : Hp} {σ : L2.St} {k : List D → List Sl → Prop} {Q : VK} (n : nF K B F σ k Q) {xs : List D} {ρ : List Sl} {F' H' : Hp} {q : Addr} {vs : List V} (h : k xs ρ) (e : Ex F F') (S : Sat K B F' ρ σ H') (hq : H' q = none) (r : RpL K B.rs F' vs xs) : Q (.ref q) (upd H' q (.lst vs)) := by
  obtain ⟨h1, h2, h3, h4⟩ := S.newO (o := .lst vs) hq
  exact n xs ρ F' q vs _ h e (S.laidO hq) upd_same r h1 h2 h3 h4
@[simp ↓] def fLst (t : TDa) : TDf := fun ρ k x => t ρ (fun rs ρ1 => frzs ρ1 rs fun ds ρ2 => ds.length ≤ 16777216 ∧ k ds ρ2) x
theorem df_lst (h : DA X E es t) : DF X E (.List es pos) (fLst t) :=
  df_of (pe_lst h) fun B F ρ σ H k x Q S q n m => ⟨B, F, ρ, _, x, S, q, fun rs ρ1 F1 vs H1 q1 e1 S1 r1 => by
    obtain ⟨ds, ρ2, F2, ⟨hl, q2⟩, e2, S2, r2⟩ := frzs_ok S1 r1 q1
    exact ⟨by rw [r2.length, sizeLine_eq]; exact hl, fun q hq => n.new q2 (e1.tr e2) S2 hq r2⟩, m⟩
@[simp ↓] def fSplit (to te : TD) : TDf := fun ρ k x => to ρ (fun a ρ1 => ∃ s, a = .d (.str s) ∧ te ρ1 (fun b ρ2 => ∃ c, b = .d (.str ⟨#[c]⟩) ∧ c < 256 ∧ s.length + 2 ≤ 16777216 ∧ k ((spS c s).map D.str) ρ2) x) x
theorem df_split (ho : DE X E o to) (he : DE X E e te) (hs : starEach [e] X.env = [(false, eval e X.env)] := by rfl) (hbase : attributeBase o "split" X.env (eval o X.env) = eval o X.env := by rfl) (hline : (apos.endLine == pos.line) = true := by rfl) :
    DF X E (.Call (.Attribute o "split" apos) [e] [] pos) (fSplit to te) :=
  df_of (pe_split ho he hs hbase hline) fun B F ρ σ H k x Q S q n m => ⟨B, F, ρ, _, x, S, q, fun a ρ1 F1 v H1 ⟨s, es, q1⟩ e1 S1 r1 => by
    subst es
    cases (show Rp X.K B.rs F1 v (.str s) from r1) with
    | str _ so =>
      refine ⟨⟨_, rfl⟩, B, F1, ρ1, _, x, S1, q1, fun b ρ2 F2 w H2 ⟨c, ec, hc, hl, q2⟩ e2 S2 r2 => ?_, m.mono e1⟩
      subst ec
      cases (show Rp X.K B.rs F2 w (.str ⟨#[c]⟩) from r2)
      refine ⟨s, _, rfl, rfl, rfl, by rw [sizeLine_eq]; exact hl, fun q hq => ?_⟩
      rw [split_spS hc]
      exact n.new q2 (e1.tr e2) S2 hq (RpL.ofStrs fun z hz => sok_spS so hz), m⟩
@[simp ↓] def fListOf (t : TD) : TDf := fun ρ k x => t ρ (fun r ρ1 => val ρ1 r fun d => match d with
  | .lst xs => k xs ρ1
  | .tup xs => k xs ρ1
  | _ => False) x
theorem df_listof (hg : Gl X "list") (hm : X.mg "list" = none) (h : DE X E e te)
    (he : starEach (e :: []) X.env = (false, eval e X.env) :: starEach [] X.env := by rfl) (hpl : (backTo pos (starEach [] X.env)).any (·.1) = false := by rfl) : DF X E (.Call (.Name "list" p) [e] [] pos) (fListOf te) :=
  df_of (pe_callTy call_list_of hg hm PyProof.Rows.boot_list (pa_cons h pa_nil he) (by decide) (by decide) he hpl) fun B F ρ σ H k x Q S q n m => ⟨B, F, ρ, _, x, S, q, fun r ρ1 F1 v H1 q1 e1 S1 r1 => by
    obtain ⟨d, q2, r2⟩ := Rv.val S1 r1 q1
    split at q2
    · obtain ⟨p, vs, rfl, h1, rl⟩ := r2.lst S1.fh
      exact ⟨p, vs, rfl, .inl (SqL.of h1), fun q hq => n.new q2 e1 S1 hq rl⟩
    · obtain ⟨p, vs, rfl, h1, rl⟩ := r2.tup
      exact ⟨p, vs, rfl, .inr (exT S1.fh h1), fun q hq => n.new q2 e1 S1 hq rl⟩
    · exact q2.elim, m⟩
@[simp ↓] def dSetO (i : Nat) (t : TDf) : TDs := fun kd ρ => t ρ (fun xs ρ1 => kd.nx (ρ1.set i (.o xs))) kd.x
theorem ds_setO {i : Nat} {x : Str} {pos' : Pos} {t : TDf} (hN : X.N.Nodup) (hi : X.N[i]? = some x) (hx : Loc X.env.scope x) (he : DF X E e t) (hs : swapsWith e (some (.Name x pos')) pos.line X.env = pure false := by rfl) (hf : X.fn x = true ∨ X.env.scope.names.lookup x = some .local := by first | exact .inl rfl | exact .inr rfl | assumption) :
    DS X E (.Assign [.Name x pos'] e pos) (dSetO i t) :=
  ds_ofN (ps_set hN hi hx he hs hf) fun B F ρ σ H kd D hn S q n m => ⟨B, F, ρ, _, kd.x, S, q, fun xs ρ1 F1 p vs H1 q1 e1 S1 h1 r1 h2 h3 h4 h5 => n.nx _ _ _ _ q1 e1 (S1.setO i h1 r1 h2 h3 h4 h5 (ix_lt hn hi)), m⟩

inductive Rf where
  | d (x : D) | o (xs : List D)
inductive PfL (K : PySem.W.Frag) (rs : Rs) (F : Hp) : List (Addr × HO) → List V → List Rf → Prop
  | nil : PfL K rs F [] [] []
  | d {hs : List (Addr × HO)} {v : V} {x : D} {vs : List V} {fs : List Rf} : Rp K rs F v x → PfL K rs F hs vs fs → PfL K rs F hs (v :: vs) (.d x :: fs)
  | o {hs : List (Addr × HO)} {p : Addr} {ws : List V} {xs : List D} {vs : List V} {fs : List Rf} : RpL K rs F ws xs → (∀ y ∈ hs, y.1 ≠ p) → PfL K rs F hs vs fs → PfL K rs F ((p, .lst ws) :: hs) (.ref p :: vs) (.o xs :: fs)
abbrev TDp := List Sl → (List Rf → List Sl → Prop) → Kx → Prop
def emP (K : PySem.W.Frag) (E : XK) (t : TDp) : TA := fun σ H Q => ∃ B F ρ k x, Sat K B F ρ σ H ∧ t ρ k x ∧ (∀ fs ρ' F' vs H' hs, k fs ρ' → Ex F F' → Sat K { B with hl := hs ++ B.hl } F' ρ' σ H' → PfL K B.rs F' hs vs fs → (∀ y ∈ hs, ∀ z ∈ B.hl, y.1 ≠ z.1) → Q vs H') ∧ nX K E B F x
def DP (X : Cx) (E : XK) (es : List Expr) (t : TDp) : Prop := PA X es (emP X.K E t)
@[simp ↓] def pNil : TDp := fun ρ k _ => k [] ρ
@[simp ↓] def pD (t : TD) (u : TDp) : TDp := fun ρ k x => t ρ (fun r ρ1 => frz ρ1 r fun d ρ2 => u ρ2 (fun fs ρ3 => k (.d d :: fs) ρ3) x) x
@[simp ↓] def pO (t : TDf) (u : TDp) : TDp := fun ρ k x => t ρ (fun xs ρ1 => u ρ1 (fun fs ρ2 => k (.o xs :: fs) ρ2) x) x
theorem dp_nil : DP X E [] pNil := PA.imp pa_nil fun σ H Q ⟨B, F, ρ, k, x, S, q, n, m⟩ => n _ _ _ _ _ [] q (Ex.rf _) S .nil (fun _ h => nomatch h)
theorem dp_d {u : TDp} (ha : DE X E e te) (hr : DP X E es u) (hs : starEach (e :: es) X.env = (false, eval e X.env) :: starEach es X.env := by rfl) : DP X E (e :: es) (pD te u) :=
  PA.imp (pa_cons ha hr hs) fun σ H Q ⟨B, F, ρ, k, x, S, q, n, m⟩ => ⟨B, F, ρ, _, x, S, q, fun r ρ1 F1 v H1 q1 e1 S1 r1 => by
    obtain ⟨d, ρ2, F2, q2, e2, S2, r2⟩ := Rv.frz S1 r1 q1
    refine ⟨B, F2, ρ2, _, x, S2, q2, fun fs ρ3 F3 vs H3 hs q3 e3 S3 r3 dd => n _ _ _ _ _ hs q3 ((e1.tr e2).tr e3) S3 (.d (r2.mono e3) r3) dd, m.mono (e1.tr e2)⟩, m⟩
theorem nX.less {K : PySem.W.Frag} {E : XK} {B : Bs} {F : Hp} {x : Kx} (m : nX K E B F x) {hs : List (Addr × HO)} (h : ∀ y ∈ B.hl, y ∈ hs) : nX K E { B with hl := hs } F x := fun C m' F' c H' q e g o =>
  m C m' F' c H' q e (g.less (B := { B with hl := hs }) h) (by cases m' <;> exact o)
theorem dp_o {tf : TDf} {u : TDp} (ha : DF X E e tf) (hr : DP X E es u) (hs : starEach (e :: es) X.env = (false, eval e X.env) :: starEach es X.env := by rfl) : DP X E (e :: es) (pO tf u) :=
  PA.imp (pa_cons ha hr hs) fun σ H Q ⟨B, F, ρ, k, x, S, q, n, m⟩ => ⟨B, F, ρ, _, x, S, q, fun xs ρ1 F1 p vs H1 q1 e1 S1 h1 r1 h2 h3 h4 h5 => by
    refine ⟨{ B with hl := (p, .lst vs) :: B.hl }, F1, ρ1, _, x, S1.holdAt h1 h2 h3 h5, q1, fun fs ρ3 F3 ws H3 hs q3 e3 S3 r3 dd => ?_, (m.mono e1).less fun y hy => List.mem_cons_of_mem _ hy⟩
    refine n _ _ _ _ _ ((p, .lst vs) :: hs) q3 (e1.tr e3) (S3.less fun y hy => ?_) (.o (r1.mono e3) (fun y hy => dd y hy (p, .lst vs) List.mem_cons_self) r3) fun y hy z hz => ?_
    · rcases List.mem_cons.mp hy with e | hy
      · rw [e]; exact List.mem_append_right _ List.mem_cons_self
      · rcases List.mem_append.mp hy with hy | hy
        · exact List.mem_append_left _ hy
        · exact List.mem_append_right _ (List.mem_cons_of_mem _ hy)
    · rcases List.mem_cons.mp hy with e | hy
      · rw [e]; exact (h4 z hz).symm
      · exact dd y hy z (List.mem_cons_of_mem _ hz), m⟩
@[simp ↓] def setP : List Nat → List Rf → List Sl → List Sl
  | i :: is, .d x :: fs, ρ => setP is fs (ρ.set i (.d x))
  | i :: is, .o xs :: fs, ρ => setP is fs (ρ.set i (.o xs))
  | _, _, ρ => ρ
def setV : List Nat → List V → L2.St → L2.St
  | i :: is, v :: vs, σ => setV is vs (σ.set i (some v))
  | _, _, σ => σ
theorem two_lt {n i j : Nat} (hi : i < n) (hj : j < n) : ∀ a ∈ [i, j], a < n := fun a ha => by
  rcases List.mem_cons.mp ha with e | ha
  · exact e ▸ hi
  · exact (List.mem_singleton.mp ha) ▸ hj
theorem setP_ok {K : PySem.W.Frag} {B : Bs} : ∀ {fs : List Rf} {is : List Nat} {hs : List (Addr × HO)} {vs : List V} {F H : Hp} {ρ : List Sl} {σ : L2.St}, Sat K { B with hl := hs ++ B.hl } F ρ σ H → PfL K B.rs F hs vs fs → (∀ y ∈ hs, ∀ z ∈ B.hl, y.1 ≠ z.1) → is.length = fs.length → (∀ i ∈ is, i < σ.length) → Sat K B F (setP is fs ρ) (setV is vs σ) H
  | [], is, hs, vs, F, H, ρ, σ, S, r, _, hl, _ => by
    cases r
    cases is with
    | nil => exact S
    | cons _ _ => cases hl
  | f :: fs, [], hs, vs, F, H, ρ, σ, S, r, _, hl, _ => by cases hl
  | f :: fs, i :: is, hs, vs, F, H, ρ, σ, S, r, dd, hl, hlt => by
    have hl' : is.length = fs.length := by simpa using hl
    have h0 := hlt i List.mem_cons_self
    have ht : ∀ {u : Option V}, ∀ j ∈ is, j < (σ.set i u).length := fun j hj => by rw [List.length_set]; exact hlt j (List.mem_cons_of_mem _ hj)
    cases r with
    | d r t => exact setP_ok (fs := fs) (S.setD i r h0) t dd hl' ht
    | @o hs p ws xs vs _ r hn t =>
      obtain ⟨h1, h2, h3, h4⟩ := S.held (p := p) (o := .lst ws) List.mem_cons_self
      have S2 := S.less (hs := hs ++ B.hl) fun x hx => List.mem_cons_of_mem _ hx
      refine setP_ok (fs := fs) (S2.setO i h1 r h2 h3 (fun x hx => ?_) h4 h0) t (fun y hy => dd y (List.mem_cons_of_mem _ hy)) hl' ht
      rcases List.mem_append.mp hx with hx | hx
      · exact hn x hx
      · exact (dd _ List.mem_cons_self x hx).symm
theorem PfL.length {K : PySem.W.Frag} {rs : Rs} {F : Hp} {hs : List (Addr × HO)} {vs : List V} {fs : List Rf} (h : PfL K rs F hs vs fs) : vs.length = fs.length := by
  induction h with
  | nil => rfl
  | d _ _ ih => simp [ih]
  | o _ _ _ ih => simp [ih]
@[simp ↓] def dPar (is : List Nat) (t : TDp) : TDs := fun kd ρ => t ρ (fun fs ρ1 => fs.length = is.length ∧ kd.nx (setP is fs ρ1)) kd.x
theorem ds_par {i j : Nat} {x y : Str} {a b : Expr} {t : TDp} {px py pt : Pos} {kt k2 : Nat} {pt2 : Pos} (hc : X.calm = true) (hN : X.N.Nodup) (hi : X.N[i]? = some x) (hj : X.N[j]? = some y) (hij : i ≠ j)
    (hx : X.env.scope.names.lookup x = some .local) (hy : X.env.scope.names.lookup y = some .local) (ha : DP X E [a, b] t)
    (hw : swappedStores [.Tuple [.Name x px, .Name y py] kt pt] (.Tuple [a, b] k2 pt2) X.env = pure (some [x, y]))
    (hs : swapsWithSole [.Tuple [.Name x px, .Name y py] kt pt] (.Tuple [a, b] k2 pt2) pos.line X.env = pure false := by rfl) :
    DS X E (.Assign [.Tuple [.Name x px, .Name y py] kt pt] (.Tuple [a, b] k2 pt2) pos) (dPar [i, j] t) :=
  ds_ofN (L2.ps_par hc hN hi hj hij hx hy ha hw hs) fun B F ρ σ H kd D hn S q n m => ⟨B, F, ρ, _, kd.x, S, q, fun fs ρ1 F1 vs H1 hs ⟨hl, q1⟩ e1 S1 r1 dd => by
    have hv := r1.length
    match vs, hv with
    | [v, w], _ => exact ⟨v, w, rfl, n.nx _ _ _ _ q1 e1 (setP_ok (is := [i, j]) S1 r1 dd hl.symm (two_lt (ix_lt hn hi) (ix_lt hn hj)))⟩
    | [], hv => simp at hv; rw [hl] at hv; cases hv
    | [_], hv => simp at hv; rw [hl] at hv; cases hv
    | _ :: _ :: _ :: _, hv => simp at hv; rw [hl] at hv; simp at hv, m⟩
theorem ds_par3 {i j l : Nat} {x y z : Str} {a b c : Expr} {t : TDp} {px py pz pt : Pos} {kt k2 : Nat} {pt2 : Pos} (hc : X.calm = true) (hN : X.N.Nodup) (hi : X.N[i]? = some x) (hj : X.N[j]? = some y) (hl0 : X.N[l]? = some z) (hij : i ≠ j) (hil : i ≠ l) (hjl : j ≠ l)
    (hx : X.env.scope.names.lookup x = some .local) (hy : X.env.scope.names.lookup y = some .local) (hz : X.env.scope.names.lookup z = some .local) (ha : DP X E [a, b, c] t)
    (hw : swappedStores [.Tuple [.Name x px, .Name y py, .Name z pz] kt pt] (.Tuple [a, b, c] k2 pt2) X.env = pure (some [x, y, z]))
    (hs : swapsWithSole [.Tuple [.Name x px, .Name y py, .Name z pz] kt pt] (.Tuple [a, b, c] k2 pt2) pos.line X.env = pure false := by rfl) :
    DS X E (.Assign [.Tuple [.Name x px, .Name y py, .Name z pz] kt pt] (.Tuple [a, b, c] k2 pt2) pos) (dPar [i, j, l] t) :=
  ds_ofN (L2.ps_par3 hc hN hi hj hl0 hij hil hjl hx hy hz ha hw hs) fun B F ρ σ H kd D hn S q n m => ⟨B, F, ρ, _, kd.x, S, q, fun fs ρ1 F1 vs H1 hs ⟨hl, q1⟩ e1 S1 r1 dd => by
    have hv := r1.length
    match vs, hv with
    | [v, w, u], _ => exact ⟨v, w, u, rfl, n.nx _ _ _ _ q1 e1 (setP_ok (is := [i, j, l]) S1 r1 dd hl.symm (fun a ha => by rcases List.mem_cons.mp ha with e | ha; exact e ▸ ix_lt hn hi; exact two_lt (ix_lt hn hj) (ix_lt hn hl0) a ha))⟩
    | [], hv => simp at hv; rw [hl] at hv; cases hv
    | [_], hv => simp at hv; rw [hl] at hv; cases hv
    | [_, _], hv => simp at hv; rw [hl] at hv; cases hv
    | _ :: _ :: _ :: _ :: _, hv => simp at hv; rw [hl] at hv; simp at hv, m⟩
theorem held_new {K : PySem.W.Frag} {B : Bs} {F H : Hp} {ρ : List Sl} {σ : L2.St} {hs : List (Addr × HO)} (S : Sat K { B with hl := hs ++ B.hl } F ρ σ H) {p : Addr} (hp : H p = none) {xs : List V} : Sat K { B with hl := hs ++ B.hl } F ρ σ (upd H p (.tup xs)) := S.laidO hp
theorem ds_parC {i j : Nat} {x y : Str} {a b : Expr} {t : TDp} {px py pt : Pos} {kt k2 : Nat} {pt2 : Pos} (hc : X.calm = true) (hN : X.N.Nodup) (hi : X.N[i]? = some x) (hj : X.N[j]? = some y)
    (hx : Loc X.env.scope x) (hy : Loc X.env.scope y) (ha : DP X E [a, b] t)
    (hs : swapsWithSole [.Tuple [.Name x px, .Name y py] kt pt] (.Tuple [a, b] k2 pt2) pos.line X.env = pure false := by rfl) (hw : swappedStores [.Tuple [.Name x px, .Name y py] kt pt] (.Tuple [a, b] k2 pt2) X.env = pure none := by rfl)
    (h1 : (assignEach [.Tuple [.Name x px, .Name y py] kt pt] X.env).map (·.2) = [assign (.Tuple [.Name x px, .Name y py] kt pt) X.env] := by rfl)
    (hn : (assignEach [.Name x px, .Name y py] X.env).length = 2 := by rfl) (hst : (assignEach [.Name x px, .Name y py] X.env).findIdx? (·.1) = none := by rfl)
    (hs1 : (assignEach (.Name x px :: [.Name y py]) X.env).map (·.2) = assign (.Name x px) X.env :: (assignEach [.Name y py] X.env).map (·.2) := by rfl) (hs2 : (assignEach (.Name y py :: []) X.env).map (·.2) = assign (.Name y py) X.env :: (assignEach [] X.env).map (·.2) := by rfl)
    (hf : X.fn x = true ∨ X.env.scope.names.lookup x = some .local := by first | exact .inl rfl | exact .inr rfl) (hf2 : X.fn y = true ∨ X.env.scope.names.lookup y = some .local := by first | exact .inl rfl | exact .inr rfl) :
    DS X E (.Assign [.Tuple [.Name x px, .Name y py] kt pt] (.Tuple [a, b] k2 pt2) pos) (dPar [i, j] t) :=
  ds_ofN (ps_asg (pe_tup ha) (pg_tup hc (pgs_cons (pg_name hN hi hx hf) (pgs_cons (pg_name hN hj hy hf2) pgs_nil hs2) hs1) hn hst) hs hw h1) fun B F ρ σ H kd D hσ S q n m => ⟨B, F, ρ, _, kd.x, S, q, fun fs ρ1 F1 vs H1 hs ⟨hl, q1⟩ e1 S1 r1 dd => by
    have hv := r1.length
    match vs, hv with
    | [v, w], _ =>
      refine ⟨by show 2 ≤ sizeLine; rw [sizeLine_eq]; decide, fun p hp => ?_⟩
      exact ⟨p, [v, w], rfl, SqT.of upd_same, rfl, v, [w], rfl, w, [], rfl, rfl, n.nx _ _ _ _ q1 e1 (setP_ok (is := [i, j]) (held_new S1 hp) r1 dd hl.symm (two_lt (ix_lt hσ hi) (ix_lt hσ hj)))⟩
    | [], hv => simp at hv; rw [hl] at hv; cases hv
    | [_], hv => simp at hv; rw [hl] at hv; cases hv
    | _ :: _ :: _ :: _, hv => simp at hv; rw [hl] at hv; simp at hv, m⟩
@[simp ↓] def dSetI (s : Nat) (te ti : TD) : TDs := fun kd ρ => te ρ (fun r ρ1 => frz ρ1 r fun d ρ2 => dOwn s ρ2 fun _ => ti ρ2 (fun r2 ρ3 => ∃ z, r2 = .d (.int z) ∧ dOwn s ρ3 fun xs => ∃ j, ixN xs.length z = some j ∧ kd.nx (ρ3.set s (.o (xs.set j d)))) kd.x) kd.x
theorem ds_setI {i : Expr} {s : Nat} {ti : TD} {tpos : Pos} (ho : PE X o (tVar s)) (he : DE X E e te) (hi : DE X E i ti)
    (hs : swapsWithSole [.Subscript o i tpos] e pos.line X.env = pure false := by rfl) (hw : swappedStores [.Subscript o i tpos] e X.env = pure none := by rfl)
    (h1 : (assignEach [.Subscript o i tpos] X.env).map (·.2) = [assign (.Subscript o i tpos) X.env] := by rfl)
    (ha : ∀ v, assign (.Subscript o i tpos) X.env v = (do
      let ov ← holding [v] (eval o X.env)
      let iv ← holding [v, ov] (eval i X.env)
      standAt tpos
      holding [v, ov, iv] (setItem ov iv v)
      release [v, ov, iv] []) := by intro _; rfl) : DS X E (.Assign [.Subscript o i tpos] e pos) (dSetI s te ti) :=
  ds_of (ps_asg he (pg_sub ho hi set_list ha) hs hw h1) fun B F ρ σ H kd D S q n m => ⟨B, F, ρ, _, kd.x, S, q, fun r ρ1 F1 v H1 q1 e1 S1 r1 => by
    obtain ⟨d, ρ2, F2, q2, e2, S2, r2⟩ := Rv.frz S1 r1 q1
    obtain ⟨xs0, h0, q2⟩ := dOwn_ok q2
    obtain ⟨p, vs0, hv, _, _, _, _, _⟩ := S2.own h0
    refine ⟨_, hv, B, F2, ρ2, _, kd.x, S2, q2, fun r3 ρ3 F3 w H3 ⟨z, ez, q3⟩ e3 S3 rw3 => ?_, m.mono (e1.tr e2)⟩
    subst ez
    cases (show Rp X.K B.rs F3 w (.int z) from rw3)
    obtain ⟨xs, h3, j, hj, q4⟩ := dOwn_ok q3
    obtain ⟨p', vs, hv', hH', rl, hF, h0', hh⟩ := S3.own h3
    rw [hv] at hv'
    cases hv'
    exact ⟨p, vs, z, j, rfl, rfl, hH', by rw [rl.length]; exact hj, n.nx _ _ _ _ q4 ((e1.tr e2).tr e3) (S3.writeO s h3 hv (rl.set (r2.mono e3) j) hF h0' hh)⟩, m⟩
end
end DL
namespace PySem
namespace DLE
open PySem.W PySem.Calls PyProof.Rows PySem.HandSPX
def eA (fld : Str) (p1 p2 : Pos) : Arguments := { posonlyargs := [], args := [{ arg := "self", annotation := none, pos := p1 }, { arg := fld, annotation := none, pos := p2 }], vararg := none, kwonlyargs := [], kw_defaults := [], kwarg := none, defaults := [] }
def eB (fld msg : Str) (q1 q2 q3 q4 q5 q6 q7 q8 q9 q10 : Pos) : List Stmt :=
  [.Expr (.Call (.Attribute (.Call (.Name "super" q1) [] [] q2) "__init__" q3) [.Constant (.str msg) 0 q4] [] q5) q6, .Assign [.Attribute (.Name "self" q7) fld q8] (.Name fld q9) q10]
def eS (fld : Str) : Scope := { kind := .function, names := [("self", .local), (fld, .local), ("__class__", .free), ("super", .globalImplicit)], isGenerator := false, isCoroutine := false, more := [] }
structure ErrTxt (P : Program) (K : Frag) (mg : Str → Option Value) (C fI : Addr) (cn fld : Str) : Prop where
  gC : mg cn = some (.ref C)
  gs : mg "super" = none
  cls : ∃ nm q N bs bm sn sub ab col dd k0 k1 k2 k3 k5, K.lookup C = some (excClassObj nm q C N bs bm true sn sub ab col dd k0 k1 k2 k3 k5 "ValueError.__new__") ∧ refsVE bm = true
  sa : findIn K (.ref C) "__setattr__" = some (some (.builtin "object.__setattr__"))
  noN : findIn K (.ref C) fld = some none
  iC : findIn K (.ref C) "__init__" = some (some (.ref fI))
  tC : typeIn K (.ref fI) = some (.type "function")
  kC : keepIn K (.ref C) = true
  exC : subIn K (.ref C) (.type "BaseException") = some true
  exV : subIn K (.ref C) (.type "ValueError") = some true
  tyC : typeIn K (.ref C) = some (.type "type")
  opq : nsIn K cStatics "thirdparty.any" = some none
  mro : mroIn K C (.ref C) = some true
  sup : ks_superIn K C C "__init__" = some (some (.builtin "ValueError.__init__"))
  top : (P.main.scope.names.lookup ("super" : Str)).isSome = false
  fok : fld = "row" ∨ fld = "name" ∨ fld = "index" ∨ fld = "at"
  fn : ∃ (oc : Value) (od : Option Addr) (doc pm : Value) (an : Option Addr) (ct : Value) (osl : Array (Option Value)) (msg q : Str) (cc cda : Addr) (p1 p2 q1 q2 q3 q4 q5 q6 q7 q8 q9 q10 : Pos),
    K.lookup fI = some ⟨oc, od, .func (ksFn "__init__" q (eA fld p1 p2) (eB fld msg q1 q2 q3 q4 q5 q6 q7 q8 q9 q10) (eS fld) .none .none doc pm an (.ref cda) ct cc), osl⟩ ∧ codeIn K (.ref cda) q = true ∧
    (q3.endLine == q5.line) = true ∧ (∃ cl cld csl, K.lookup cc = some ⟨cl, cld, .cell (some (.ref C)), csl⟩) ∧
    ∃ ccl cdd vs ccs file tf, K.lookup cda = some ⟨ccl, cdd, .fields vs, ccs⟩ ∧ vs[2]? = some (.str file tf) ∧ ((P.main.file : Str) == file) = true
theorem fok_ne {fld : Str} (h : fld = "row" ∨ fld = "name" ∨ fld = "index" ∨ fld = "at") : (fld == ("__debug__" : Str)) = false := by
  rcases h with rfl | rfl | rfl | rfl <;> decide
section
variable {prog : Program} {w : World} {A : Around} {E : Value → Shared → Prop} {h : Heap} {g : Array GenState} {d : Drawn} {t : Nat} {os : OsState}
variable {nm q : Str} {C N : Addr} {bs bm : List Value} {hdct : Bool} {sn : List Str} {sub : List Value} {ab : Bool} {col : Option Bool} {dd : Option Addr} {k0 k1 k2 k3 k5 : Option Value}
theorem call_mw {u e t0 : Addr} {rest : List Value} {Q : Value → Shared → Prop}
    (hC : h.get? C = some (excClassObj nm q C N bs bm hdct sn sub ab col dd k0 k1 k2 k3 k5 "ValueError.__new__")) (he : h.get? e = some (excO C t0)) (hu : h.get? u = some (kxs_mw "ValueError.__init__" e)) (hrest : rest.length ≤ sizeLine)
    (hq : ∀ h' t1, (∀ b o, b ≠ e → h.get? b = some o → h'.get? b = some o) → h'.get? e = some (excO C t1) → Q .none ⟨h', g, d, t, os⟩) :
    wpAny (model prog w) A (call (.ref u) rest) Q E ⟨h, g, d, t, os⟩ := by
  refine wpAny_call (codeAny_of_tree ?_)
  show wpAny _ A.in1 (callAny (.ref u) ⟨rest, []⟩) _ _ _
  simp only [callAny]
  refine wpAny_bind (wpAny_load hu ?_)
  simp only [kxs_mw, show (Value.type "method-wrapper" == Value.type "method" || Value.type "method-wrapper" == Value.type "builtin_function_or_method" || Value.type "method-wrapper" == Value.type "method-wrapper") = true by decide, if_true]
  refine KFB.if_so (by decide) ?_
  refine wpAny_bind (check_bound_init F.excBase_ValueError.toExcCallFacts hC he rfl ?_)
  refine wpAny_bind (wpAny_pure (wpAny_pure ?_))
  refine ⟨plainId_quiet F.excBase_ValueError.init.plain _, codeAny_builtin F.excBase_ValueError.initEntry ?_⟩
  rw [Around.under_plainId F.excBase_ValueError.init.plain _]
  wp_walk
  refine hq _ h.objs.size (fun b o hb ho => ?_) ?_
  · rw [Heap.get?_update_other _ _ (Ne.symm hb)]
    exact Heap.get?_push_of_some _ ho
  · rw [Heap.get?_update_self _ (Heap.get?_push_of_some _ he) rfl]
    rfl
end
structure InitEnd (h h' : Heap) (x C dx t1 : Addr) (fld : Str) (v : Value) : Prop where
  keep : ∀ b o, b ≠ x → h.get? b = some o → h'.get? b = some o
  obj : h'.get? x = some { cls := .ref C, dict := some dx, data := .fields #[.ref t1, .none, .none, .none, .bool false, .none] }
  dbig : h.objs.size ≤ dx
  dne : dx ≠ x
  ns : h'.Ns1 dx (fun y => if y = fld then some v else none)
structure OwnMade (h h' : Heap) (e C d : Addr) (fld : Str) (v : Value) : Prop where
  keep : ∀ b o, h.get? b = some o → h'.get? b = some o
  new : h.objs.size ≤ e
  obj : ∃ oe vs, h'.get? e = some oe ∧ oe.cls = .ref C ∧ oe.dict = some d ∧ oe.data = .fields vs ∧ vs[1]? = some .none
  dbig : h.objs.size ≤ d
  dne : d ≠ e
  ns : h'.Ns1 d (fun y => if y = fld then some v else none)
section
variable {prog : Program} {w : World} {A : Around} {E : Value → Shared → Prop} {R : Result → Shared → Prop} {s : Shared} {K : Frag} {mg mb : Str → Option Value} {C fI : Addr} {cn fld : Str}
theorem err_init (T : ErrTxt prog K mg C fI cn fld) {x t0 : Addr} {v : Value} (X : K.In s.heap) (hg : s.heap.Ns mainGlobals mg) (hb : s.heap.Ns builtinsNs mb) (hbs : mb "super" = some (.type "super")) (hlim : s.heap.NoLimit) (hx : s.heap.get? x = some (excO C t0)) (hnx : K.lookup x = none) (hroom : A.depth < recursionLimit)
    (hq : ∀ h' tk dx t1, InitEnd s.heap h' x C dx t1 fld v → R (.ok (.ret .none)) { s with heap := h', toks := tk }) :
    codeAny (model prog w) A (.call (.ref fI) ⟨[.ref x, v], []⟩) R s := by
  obtain ⟨oc, od, doc, pm, an, ct, osl, msg, q, cc, cda, p1, p2, q1, q2, q3, q4, q5, q6, q7, q8, q9, q10, ho, hcd, hline, ⟨cl, cld, csl, hcell⟩, ccl, cdd, vs, ccs, file, tf, hcode, hvs, hfile⟩ := T.fn
  obtain ⟨nm, qq, N, bs, bm, sn, sub, ab, col, dd, k0, k1, k2, k3, k5, hC, hbm⟩ := T.cls
  have hcl : clsIn K C = some { name := nm, bases := bs, mro := .ref C :: bm, ns := N, qualname := qq, hasDict := true, slotNames := sn, subclasses := sub, abstract := ab, collection := col, hasDel := false } := by unfold clsIn; rw [hC] <;> rfl
  have hxC : x ≠ C := fun z => by rw [z, hC] at hnx; cases hnx
  have hsup : alongIn K "__init__" (((Value.ref C :: bm).dropWhile (· != .ref C)).drop 1) = some (some (.builtin "ValueError.__init__")) := by
    have e := T.sup
    unfold ks_superIn at e
    rw [hcl] at e
    exact e
  have hfn : (s.heap.get? fI) = some ⟨oc, od, .func (ksFn "__init__" q (eA fld p1 p2) (eB fld msg q1 q2 q3 q4 q5 q6 q7 q8 q9 q10) (eS fld) .none .none doc pm an (.ref cda) ct cc), osl⟩ := X _ _ ho
  have hloc : ∀ y ∈ [(("self" : Str), Value.ref x), (fld, v)], (eS fld).names.lookup y.1 = some .local := fun y hy => by
    rcases List.mem_cons.mp hy with e | hy
    · rw [e]; rfl
    · rcases List.mem_cons.mp hy with e | hy
      · rw [e]
        rcases T.fok with rfl | rfl | rfl | rfl <;> rfl
      · cases hy
  have hnc : ∀ y ∈ (eS fld).names, y.2 ≠ NameKind.cell := fun y hy => by
    simp only [eS, List.mem_cons, List.not_mem_nil, or_false] at hy
    rcases hy with rfl | rfl | rfl | rfl <;> (intro z; cases z)
  have hbind : BindsTo s (ksFn "__init__" q (eA fld p1 p2) (eB fld msg q1 q2 q3 q4 q5 q6 q7 q8 q9 q10) (eS fld) .none .none doc pm an (.ref cda) ct cc) ⟨[.ref x, v], []⟩ [("self", .ref x), (fld, v)] := by
    rcases T.fok with rfl | rfl | rfl | rfl <;> exact BindsTo.of_eq (by first | rfl | with_unfolding_all rfl)
  refine ks_codeAny_call_defAt (fd := ksFn "__init__" q (eA fld p1 p2) (eB fld msg q1 q2 q3 q4 q5 q6 q7 q8 q9 q10) (eS fld) .none .none doc pm an (.ref cda) ct cc) (body := eB fld msg q1 q2 q3 q4 q5 q6 q7 q8 q9 q10) (binds := [("self", .ref x), (fld, v)])
    hroom hfn rfl hlim (codeRec_of X hcd) rfl hbind hnc hloc (fun h₁ hns k => ?_) rfl rfl rfl
  have X₁ : K.In h₁ := X.keeps k
  have hx₁ := k _ _ hx
  have hs : (fun y => ([(("self" : Str), Value.ref x), (fld, v)]).reverse.lookup y) "self" = some (.ref x) := by
    rcases T.fok with rfl | rfl | rfl | rfl <;> rfl
  have hf : (fun y => ([(("self" : Str), Value.ref x), (fld, v)]).reverse.lookup y) fld = some v := by
    rcases T.fok with rfl | rfl | rfl | rfl <;> rfl
  have hkf : (ksEnv q (eS fld) s.heap.objs.size fI (.ref cda) cc).kindOf fld = some .local := by
    rcases T.fok with rfl | rfl | rfl | rfl <;> rfl
  show wpAt _ (A.deeper (ksEnv q (eS fld) s.heap.objs.size fI (.ref cda) cc)) (.func (eB fld msg q1 q2 q3 q4 q5 q6 q7 q8 q9 q10) (ksEnv q (eS fld) s.heap.objs.size fI (.ref cda) cc)) (execs (eB fld msg q1 q2 q3 q4 q5 q6 q7 q8 q9 q10) (ksEnv q (eS fld) s.heap.objs.size fI (.ref cda) cc)) _ _ _
  refine ks_wpAt_execs_cons (ks_wpAt_Expr_any (ks_wpAt_MethodCall (pl := L2.plainOf (.Call (.Name "super" q1) [] [] q2) (ksEnv q (eS fld) s.heap.objs.size fI (.ref cda) cc)) ?_ ?_))
  rotate_left
  · rw [arm_eval_Call]
    exact congrArg (fun kk => attributeBase (.Call (.Name "super" q1) [] [] q2) "__init__" (ksEnv q (eS fld) s.heap.objs.size fI (.ref cda) cc) (eval (.Call (.Name "super" q1) [] [] q2) (ksEnv q (eS fld) s.heap.objs.size fI (.ref cda) cc)) >>= kk) (funext fun ov => congrArg (fun kk => standAt q3.atName >>= fun _ => kk) (L2.mcall_line rfl hline))
  refine ks_wpAt_super_base (env := ksEnv q (eS fld) s.heap.objs.size fI (.ref cda) cc) (by rcases T.fok with rfl | rfl | rfl | rfl <;> rfl) (by rcases T.fok with rfl | rfl | rfl | rfl <;> rfl) (by decide) rfl (k _ _ hfn) rfl rfl rfl (k _ _ (X _ _ hcode)) rfl hvs hfile T.top ?_
  refine ks_loadName_global rfl (by rcases T.fok with rfl | rfl | rfl | rfl <;> rfl) (loadGlobal_builtin (env := ksEnv q (eS fld) s.heap.objs.size fI (.ref cda) cc) (hg.keeps k) T.gs (hb.keeps k) hbs ⟨rfl, ?_⟩)
  refine wpAny_loadName_free rfl (by rcases T.fok with rfl | rfl | rfl | rfl <;> rfl) rfl ⟨_, k _ _ (X _ _ hcell), rfl⟩ ?_
  refine wpAny_loadName_local rfl (by rcases T.fok with rfl | rfl | rfl | rfl <;> rfl) hns hs ?_
  have hC₁ := k _ _ (X _ _ hC)
  refine ks_wpAny_isType_cls hC₁ rfl ⟨rfl, ?_⟩
  refine ks_wpAny_call_super hC₁ rfl hx₁ rfl (fun c z => by cases z) (looks_mroIn X₁ T.mro) (fun h₂ e₂ k₂ => ?_)
  have X₂ : K.In h₂ := X₁.keeps k₂
  have I₂ : InstAt h₂ x (excO C t0) C none := ⟨k₂ _ _ hx₁, rfl, rfl, trivial⟩
  refine kxs_getMethod kxs_ValueError e₂ (looks_opaque X₂ T.opq) (l₀ := .ref C :: bm) (fun A Q E s kk q => wpAny_bind ((looks_clsIn X₂ hcl) A _ E s kk (wpAny_pure q))) rfl X₂ hsup (I₂.type.andThen (looks_subIn X₂ T.exV)) hxC (by decide) ?_
  have hu₃ : (h₂.push (kxs_mw "ValueError.__init__" x)).get? h₂.objs.size = some (kxs_mw "ValueError.__init__" x) := Heap.get?_push_at rfl rfl
  have k₃ : ∀ b o, h₂.get? b = some o → (h₂.push (kxs_mw "ValueError.__init__" x)).get? b = some o := fun b o e => Heap.get?_push_of_some _ e
  dsimp only
  refine kxs_callWith (i := "ValueError.__init__") (x := x) rfl (evalArgs_plain (Calls.spliced_cons (wpAny_Constant_str (k := 0) (pos := q4) ?_)))
  refine Calls.spliced_nil ⟨hu₃, ?_⟩
  refine call_mw (k₃ _ _ (k₂ _ _ hC₁)) (k₃ _ _ I₂.at_) hu₃ (by show 1 ≤ sizeLine; rw [sizeLine_eq]; decide) (fun h₄ t1 k₄ hx₄ => ?_)
  refine wpAt_of_wpAny ?_
  have kk : ∀ b o, b ≠ x → h₁.get? b = some o → h₄.get? b = some o := fun b o hb e => k₄ b o hb (k₃ b o (k₂ b o e))
  have X₄ : K.In h₄ := fun b o e => kk b o (fun z => by rw [z, hnx] at e; cases e) (X₁ b o e)
  have hns₄ : h₄.Ns s.heap.objs.size fun y => ([(("self" : Str), Value.ref x), (fld, v)]).reverse.lookup y := by
    obtain ⟨o, es, ep, e, r⟩ := hns
    exact ⟨o, es, ep, kk _ _ (Nat.ne_of_gt (Heap.lt_size hx)) e, r⟩
  refine wpAny_execs_cons (plainObj_wpAny_Assign_Attribute ?_)
  refine wpAny_Name (wpAny_loadName_local rfl hkf hns₄ hf ?_) (fok_ne T.fok)
  refine wpAny_Name (wpAny_loadName_local rfl (by rcases T.fok with rfl | rfl | rfl | rfl <;> rfl) hns₄ hs ?_) (by decide)
  refine set_plain X₄ (ox := excO C t1) (od := none) ⟨hx₄, rfl, rfl, trivial⟩ T.sa ?_
  refine exc_osa X₄ hx₄ hcl (show refsVE (.ref C :: bm) = true from hbm) rfl T.noN (fun h₅ tk₅ dx k₅ dn dne hx₅ hn₅ => ?_)
  have z : s.heap.objs.size < h₄.objs.size := hns₄.lt
  exact wpAny_execs_nil (hq h₅ tk₅ dx t1 ⟨fun b o hb e => k₅ b o hb (kk b o hb (k b o e)), hx₅, Nat.le_of_lt (Nat.lt_of_lt_of_le z dn), dne, hn₅⟩)
theorem err_made (T : ErrTxt prog K mg C fI cn fld) {v : Value} (X : K.In s.heap) (hg : s.heap.Ns mainGlobals mg) (hb : s.heap.Ns builtinsNs mb) (hbs : mb "super" = some (.type "super")) (hlim : s.heap.NoLimit) (hroom : A.depth + 1 < recursionLimit)
    (hq : ∀ h' tk e d, OwnMade s.heap h' e C d fld v → R (.ok (.ret (.ref e))) { s with heap := h', toks := tk }) :
    codeAny (model prog w) A (.call (.ref C) ⟨[v], []⟩) R s := by
  obtain ⟨nm, q, N, bs, bm, sn, sub, ab, col, dd, k0, k1, k2, k3, k5, hC, hbm⟩ := T.cls
  obtain ⟨hp, g, dr, tk, os⟩ := s
  have k : ∀ b o, hp.get? b = some o → ((hp.push (kdv_tup [v])).push (excO C hp.objs.size)).get? b = some o := fun b o e => Heap.get?_push_of_some _ (Heap.get?_push_of_some _ e)
  have hget : ((hp.push (kdv_tup [v])).push (excO C hp.objs.size)).get? (hp.objs.size + 1) = some (excO C hp.objs.size) := by heap_get
  have hnx : K.lookup (hp.objs.size + 1) = none := by
    cases e : K.lookup (hp.objs.size + 1) with
    | none => rfl
    | some o =>
      have z : hp.get? (hp.objs.size + 1) = some o := X _ _ e
      exact absurd (Nat.lt_of_succ_lt (Heap.lt_size z)) (Nat.lt_irrefl _)
  refine call_own F.excBase_ValueError (fun X => refsVE_contains X bm hbm) (X _ _ hC) (looks_findIn X T.iC) (fun self => bind_fn X self T.tC) (by show 1 ≤ sizeLine; rw [sizeLine_eq]; decide) ?_
  refine err_init (s := ⟨(hp.push (kdv_tup [v])).push (excO C hp.objs.size), g, dr, tk, os⟩) T (X.keeps k) (hg.keeps k) (hb.keeps k) hbs (hlim.keeps k) hget hnx ?_ fun h' tk' dx t1 ⟨k', hx, dn, dne, hns⟩ => ?_
  · show A.depth + 1 < recursionLimit
    exact hroom
  · have old : ∀ b o, hp.get? b = some o → h'.get? b = some o := fun b o e => k' b o (Nat.ne_of_lt (Nat.lt_succ_of_lt (Heap.lt_size e))) (k b o e)
    have z : hp.objs.size + 1 + 1 ≤ dx := by
      have q := dn
      rw [Heap.size_push, Heap.size_push] at q
      exact q
    exact ⟨rfl, hq h' tk' (hp.objs.size + 1) dx ⟨old, Nat.le_succ _, ⟨_, _, hx, rfl, rfl, rfl, rfl⟩, Nat.le_trans (Nat.le_trans (Nat.le_succ _) (Nat.le_succ _)) z, dne, hns⟩⟩
end
end DLE
end PySem
namespace L2
open PySem PySem.Spec PyProof.Rows
section
variable {X : Cx} {C fI : Addr} {cn fld : Str}
def tMkErr (C : Addr) (fld : Str) (ta : TA) : St → Hp → XK → Prop := fun σ H Q => ta σ H fun vs H1 => ∃ v, vs = [v] ∧ ∀ d, H1 d = none → Q (.ref C) (some d) (upd H1 d (.xd [(fld, v)]))
theorem pmk_err {a : Expr} {ta : TA} {p pos : Pos} {k : Nat} (T : PySem.DLE.ErrTxt X.prog X.K X.mg C fI cn fld) (hr : Room k X.A) (ha : PA X [a] ta) (hg : Gl X cn) (hdb : (cn == ("__debug__" : Str)) = false := by decide)
    (he : starEach (a :: []) X.env = (false, eval a X.env) :: starEach [] X.env := by rfl) (hpl : (backTo pos (starEach [] X.env)).any (·.1) = false := by rfl) :
    PMk X (.Call (.Name cn p) [a] [] pos) (tMkErr C fld ta) := by
  intro pins s σ H Q I h
  refine wpAny_Call_Name_kw (ld_glob I hg T.gC ?_ hdb)
  refine PySem.W.callWith_K (h₀ := X.base) I.ok.mod.kin T.kC (thn (ha.run pos pins s σ H _ I h) fun us s1 hh => ?_) he hpl
  obtain ⟨vs, H1, I1, r1, v, ev, q1⟩ := hh
  subst ev
  refine ⟨I1.kIn, ?_⟩
  cases r1 with
  | cons rv rn =>
    rename_i v' us'
    cases rn
    show wpAny _ _ (call (.ref C) [v']) _ _ _
    have hlim := I1.nolimit
    obtain ⟨mb, b1, b2⟩ := I1.mod.blt
    have hgl : s1.heap.Ns mainGlobals X.mg := I1.mod.glob.keeps I1.bk
    have hbl : s1.heap.Ns builtinsNs mb := b1.keeps I1.bk
    have hbs : mb "super" = some (.type "super") := (b2 "super" (by decide)).trans (by first | rfl | decide +kernel)
    obtain ⟨hp, g, dr, tk, os⟩ := s1
    refine wpAny_call (PySem.DLE.err_made T I1.kIn hgl hbl hbs hlim (by have := hr.dp; omega) fun h' tk' e d M => ?_)
    show MkP X pins σ Q (.ref e) ⟨h', g, dr, tk', os⟩
    obtain ⟨oe, fv, hoe, hc, hd, hdat, h1⟩ := M.obj
    have hns := M.ns
    obtain ⟨G', g1, g2⟩ := restrict h' fun b => decide (b ≠ e)
    have gk : ∀ b, b ≠ e → G'.get? b = h'.get? b := fun b hb => g1 b (decide_eq_true hb)
    have ge : G'.get? e = none := g2 e (by simp)
    have old : ∀ b o, hp.get? b = some o → G'.get? b = some o := fun b o q => (gk b (Nat.ne_of_lt (Nat.lt_of_lt_of_le (Heap.lt_size q) M.new))).trans (M.keep b o q)
    have ob : ObjOk X.prog X.w (upd H1 d (.xd [(fld, v)])) G' d (.xd [(fld, v)]) :=
      ⟨_, hns.at (fun o q => (gk d M.dne).trans q), fun f => relO_put (fs := []) (mA := fun _ => none) rv (fun _ => True.intro) f⟩
    have J : Inv X pins σ (upd H1 d (.xd [(fld, v)])) ⟨G', g, dr, tk', os⟩ := I1.laid (t' := tk') old M.dbig ob
    refine ⟨e, oe, fv, ⟨G', g, dr, tk', os⟩, _, .ref C, some d, rfl, J, fun b o q => ?_, ge, hoe, ⟨hc, hd⟩, hdat, h1, ?_, rfl, I1.bare, raises_own T.exC T.tyC, q1 d (I1.hok.fresh M.dbig)⟩
    · by_cases hb : b = e
      · have q' : G'.get? b = some o := q
        rw [hb, ge] at q'; cases q'
      · exact (gk b hb).symm.trans q
    · rw [upd_ne (Ne.symm M.dne)]
      exact I1.hok.fresh M.new
end
end L2
namespace DL
open PySem PySem.Spec PyProof.Rows L2
@[simp ↓] def dRaise (C : Addr) (fld : Str) (te : TD) : TDs := fun kd ρ => te ρ (fun r ρ1 => frz ρ1 r fun d _ => kd.x C (some (fld, d))) kd.x
theorem ds_raise {X : Cx} {E : XK} {C fI : Addr} {cn fld : Str} {a : Expr} {te : TD} {p pos pos2 : Pos} {k : Nat} (hc : X.calm = true) (T : PySem.DLE.ErrTxt X.prog X.K X.mg C fI cn fld) (hr : Room k X.A) (tk : Takes X fun cls d _ H => E cls d H) (ha : DE X E a te) (hg : Gl X cn) (hdb : (cn == ("__debug__" : Str)) = false := by decide)
    (he : starEach (a :: []) X.env = (false, eval a X.env) :: starEach [] X.env := by rfl) (hpl : (backTo pos (starEach [] X.env)).any (·.1) = false := by rfl) :
    DS X E (.Raise (some (.Call (.Name cn p) [a] [] pos)) none pos2) (dRaise C fld te) :=
  ds_of (ps_raise hc tk (pmk_err T hr (pa_cons ha pa_nil he) hg hdb he hpl)) fun B F ρ σ H kd D S q n m => ⟨B, F, ρ, _, kd.x, S, q, fun r ρ1 F1 v H1 q1 e1 S1 r1 => by
    obtain ⟨d, ρ2, F2, q2, e2, S2, r2⟩ := Rv.frz S1 r1 q1
    refine ⟨v, rfl, fun dd hd => ?_⟩
    exact m C _ F2 (some dd) _ q2 (e1.tr e2) (S2.toGr.laidO hd) ⟨dd, v, rfl, upd_same, r2⟩, m⟩
end DL
namespace DL
open PySem PySem.Spec PyProof.Rows L2

def DefP (K : PySem.W.Frag) (mg : Str → Option Value) (x : Str) (st : Stmt) (ps : List Str) : Prop := ∃ f fd, Fun K x x st f fd ∧ mg x = some (.ref f) ∧ PySem.W.keepIn K (.ref f) = true ∧ Binds K fd ps []
def CalD (P : Program) (w : World) (K : PySem.W.Frag) (mg : Str → Option Value) (base : Heap) (k : Nat) (x : Str) (T : TF) : Prop :=
  ∃ f fd ps, FnOk P w K mg base (L2.CX P w) k f fd ps (spD K T) ∧ mg x = some (.ref f) ∧ PySem.W.keepIn K (.ref f) = true ∧ Binds K fd ps []
theorem calD {P : Program} {w : World} {K : PySem.W.Frag} {mg : Str → Option Value} {base : Heap} {x : Str} {st : Stmt} {N ps : List Str} {j : Nat} {T : TF} {t : TDs} (D : DefP K mg x st ps) (Sc : FnScope N ps (defScope st)) (hT : ∀ ds k x, T ds k x → ds.length = ps.length)
    (hd : ∀ (f : Addr) (cdv : Value) (A : Around) (outer : List Env) (s : Shared) (H : Hp) (E : XK), Room j (A.deeper (envOfC x (defScope st) s.heap.objs.size f cdv)) →
      DSs (cxOf (L2.CX P w) P w K mg base N x (defScope st) f cdv A outer s H E) E (defBody st) t)
    (vc : ∀ ds k x, T ds k x → t { nx := fun _ => k .non, rt := fun _ => k, bk := fun _ => False, ct := fun _ => False, x := x } (st0 N.length ds)) : CalD P w K mg base (j + 1) x T := by
  obtain ⟨f, fd, F, mgf, kp, b⟩ := D
  exact ⟨f, fd, ps, fnD F Sc hT (hd f) vc, mgf, kp, b⟩
section
variable {X : Cx} {E : XK} {x : Str} {p pos : Pos} {e : Expr} {es : List Expr} {ta : TDa}
theorem de_call {T : TF} {k j : Nat} (c : CalD X.prog X.w X.K X.mg X.base k x T) (hr : Room j X.A) (hx : Passes (L2.CX X.prog X.w) X E) (ha : DA X E (e :: es) ta) (hk : k ≤ j := by decide) (hg : Gl X x := by rfl)
    (hdb : (x == ("__debug__" : Str)) = false := by decide) (he : starEach (e :: es) X.env = (false, eval e X.env) :: starEach es X.env := by rfl) (hpl : (backTo pos (starEach es X.env)).any (·.1) = false := by rfl) :
    DE X E (.Call (.Name x p) (e :: es) [] pos) (dCall T ta) := by
  obtain ⟨f, fd, ps, Fn, hm, kp, b⟩ := c
  exact DL.de_call0 Fn (hr.mono hk) hg hm kp b hx ha hdb he hpl
theorem de_neg {i : Int} {j : Nat} {p1 p2 : Pos} : DE X E (.UnaryOp .USub (.Constant (.int i) j p1) p2) (dC (.int (-i))) :=
  de_of (pe_un un_neg pe_int) fun B F ρ σ H k x Q S q n m => ⟨i, rfl, n _ _ _ _ _ q (Ex.rf _) S (.int _)⟩
theorem hu_of {j : Nat} {A : Around} (r : Room j A) : A.units + 64 < cLine := by
  have := r.un
  omega
theorem passE {A : Around} {outer : List Env} {s : Shared} {H : Hp} {P : Program} {w : World} {K : PySem.W.Frag} {mg : Str → Option Value} {base : Heap} {N : List Str} {qual : Str} {sc : Scope} {f : Addr} {cdv : Value} : Passes (L2.CX P w) (cxOf (L2.CX P w) P w K mg base N qual sc f cdv A outer s H E) E :=
  passD (X := cxOf (L2.CX P w) P w K mg base N qual sc f cdv A outer s H E) (takes_of rfl rfl rfl rfl)
theorem owE {A : Around} {outer : List Env} {s : Shared} {H : Hp} {P : Program} {w : World} {K : PySem.W.Frag} {mg : Str → Option Value} {base : Heap} {N : List Str} {qual : Str} {sc : Scope} {f : Addr} {cdv : Value} : PassesOwn (model P w) (cxOf (L2.CX P w) P w K mg base N qual sc f cdv A outer s H E).A (cxOf (L2.CX P w) P w K mg base N qual sc f cdv A outer s H E).env (cxOf (L2.CX P w) P w K mg base N qual sc f cdv A outer s H E).xe :=
  passes_of (X := cxOf (L2.CX P w) P w K mg base N qual sc f cdv A outer s H E) rfl
def GS (mg : Str → Option Value) (x s : Str) : Prop := ∃ t, mg x = some (.str s t)
def GI (mg : Str → Option Value) (x : Str) (i : Int) : Prop := ∃ t, mg x = some (.int i t)
def GT (K : PySem.W.Frag) (mg : Str → Option Value) (x : Str) (ss : List Str) : Prop := ∃ a o its n, mg x = some (.ref a) ∧ K.lookup a = some o ∧ o.cls = .type "tuple" ∧ o.data = .seq its n ∧ its.size ≤ sizeLine ∧ Vals (ss.map V.str) its.toList
theorem de_gs {s : Str} (h : GS X.mg x s) (so : s.cps.all (· < 0x110000) = true := by decide +kernel) (hg : Gl X x := by rfl) (hd : (x == ("__debug__" : Str)) = false := by decide) : DE X E (.Name x pos) (dC (.str s)) := by
  obtain ⟨t, h⟩ := h
  exact de_gl (v := .str s) hg h ⟨t, rfl⟩ (fun rs F => .str s (sok_of so)) hd
theorem de_gi {i : Int} (h : GI X.mg x i) (hg : Gl X x := by rfl) (hd : (x == ("__debug__" : Str)) = false := by decide) : DE X E (.Name x pos) (dC (.int i)) := by
  obtain ⟨t, h⟩ := h
  exact de_gl (v := .int i) hg h ⟨t, rfl⟩ (fun rs F => .int i) hd
theorem de_gt {ss : List Str} (h : GT X.K X.mg x ss) (so : ss.all (fun s => s.cps.all (· < 0x110000)) = true := by decide +kernel) (hg : Gl X x := by rfl) (hd : (x == ("__debug__" : Str)) = false := by decide) : DE X E (.Name x pos) (dC (.tup (ss.map D.str))) := by
  obtain ⟨a, o, its, n, h, h1, h2, h3, h4, h5⟩ := h
  refine de_gl hg h (v := .ref a) rfl (fun rs F => .tup (.inr ⟨o, its, n, h1, h2, h3, h4, h5⟩) (RpL.ofStrs fun s hs => ?_)) hd
  exact sok_of (by
    have := List.all_eq_true.mp so s hs
    simpa using this)
end

theorem bt_len : bootBuiltins "len" = some (.builtin "len") := by decide +kernel
theorem bt_all : bootBuiltins "all" = some (.builtin "all") := by decide +kernel
theorem bt_any : bootBuiltins "any" = some (.builtin "any") := by decide +kernel
theorem bt_sorted : bootBuiltins "sorted" = some (.builtin "sorted") := by decide +kernel
theorem bt_abs : bootBuiltins "abs" = some (.builtin "abs") := by decide +kernel
theorem bt_min : bootBuiltins "min" = some (.builtin "min") := by decide +kernel
theorem bt_repr : bootBuiltins "repr" = some (.builtin "repr") := by decide +kernel
theorem bt_isinstance : bootBuiltins "isinstance" = some (.builtin "isinstance") := by decide +kernel
theorem bt_tuple : bootBuiltins "tuple" = some (.type "tuple") := by decide +kernel
theorem bt_list : bootBuiltins "list" = some (.type "list") := by decide +kernel
theorem bt_int : bootBuiltins "int" = some (.type "int") := by decide +kernel
theorem bt_str : bootBuiltins "str" = some (.type "str") := by decide +kernel
theorem bt_set : bootBuiltins "set" = some (.type "set") := by decide +kernel
theorem bt_bool : bootBuiltins "bool" = some (.type "bool") := by decide +kernel
theorem bt_dict : bootBuiltins "dict" = some (.type "dict") := by decide +kernel

def stepLc (g : TDg) (tt : TDt) (te : TD) (vs : List Nat) (d : D) (K : Option D → List Sl → Prop) (ρ : List Sl) : Prop :=
  g d ρ fun ρ1 => tt ρ1 (fun b ρ2 => if b = true then te ρ2 (fun r ρ3 => frz ρ3 r fun y ρ4 => K (some y) (wipeS ρ4 vs)) (fun _ _ => False) else K none (wipeS ρ2 vs)) (fun _ _ => False)
theorem lc_mapA0 {α : Type} {g : TDg} {tt : TDt} {te : TD} {vs : List Nat} {k : List D → List Sl → Prop} {ρ : List Sl} (g0 : α → D) (f : α → D) : ∀ {l : List α} {xs : List D}, (∀ a ∈ l, ∀ K : Option D → List Sl → Prop, K (some (f a)) ρ → stepLc g tt te vs (g0 a) K ρ) → xs.length + l.length ≤ 16777216 →
    k (xs ++ l.map f) ρ → dLcL g tt te vs k (l.map g0) xs ρ
  | [], xs, _, _, q => by simpa [dLcL] using q
  | d :: ds, xs, h, hl, q => by
    simp only [List.length_cons] at hl
    refine h d List.mem_cons_self (fun o ρ' => match o with | some y => xs.length < 16777216 ∧ dLcL g tt te vs k (ds.map g0) (xs ++ [y]) ρ' | none => dLcL g tt te vs k (ds.map g0) xs ρ') ?_
    exact ⟨by omega, lc_mapA0 g0 f (fun a ha => h a (List.mem_cons_of_mem _ ha)) (by simp; omega) (by simpa using q)⟩
theorem lc_mapF0 {α : Type} {g : TDg} {tt : TDt} {te : TD} {vs : List Nat} {k : List D → List Sl → Prop} {ρ : List Sl} (g0 : α → D) (p : α → Bool) (f : α → D) : ∀ {l : List α} {xs : List D}, (∀ a ∈ l, ∀ K : Option D → List Sl → Prop, K (if p a then some (f a) else none) ρ → stepLc g tt te vs (g0 a) K ρ) → xs.length + l.length ≤ 16777216 →
    k (xs ++ (l.filter p).map f) ρ → dLcL g tt te vs k (l.map g0) xs ρ
  | [], xs, _, _, q => by simpa [dLcL] using q
  | d :: ds, xs, h, hl, q => by
    simp only [List.length_cons] at hl
    refine h d List.mem_cons_self (fun o ρ' => match o with | some y => xs.length < 16777216 ∧ dLcL g tt te vs k (ds.map g0) (xs ++ [y]) ρ' | none => dLcL g tt te vs k (ds.map g0) xs ρ') ?_
    by_cases e : p d = true
    · rw [if_pos e]
      exact ⟨by omega, lc_mapF0 g0 p f (fun a ha => h a (List.mem_cons_of_mem _ ha)) (by simp; omega) (by simpa [e] using q)⟩
    · rw [if_neg e]
      exact lc_mapF0 g0 p f (fun a ha => h a (List.mem_cons_of_mem _ ha)) (by omega) (by simpa [e] using q)
theorem lc_good0 {g : TDg} {tt : TDt} {te : TD} {vs : List Nat} {k : List D → List Sl → Prop} {ρ : List Sl} (G : D → Prop) : ∀ {ds xs : List D}, (∀ d ∈ ds, ∀ K : Option D → List Sl → Prop, (∀ o : Option D, (∀ y, o = some y → G y) → K o ρ) → stepLc g tt te vs d K ρ) → xs.length + ds.length ≤ 16777216 →
    (∀ y ∈ xs, G y) → (∀ ys, (∀ y ∈ ys, G y) → ys.length ≤ xs.length + ds.length → k ys ρ) → dLcL g tt te vs k ds xs ρ
  | [], xs, _, _, hx, q => q xs hx (by simp)
  | d :: ds, xs, h, hl, hx, q => by
    simp only [List.length_cons] at hl
    refine h d List.mem_cons_self (fun o ρ' => match o with | some y => xs.length < 16777216 ∧ dLcL g tt te vs k ds (xs ++ [y]) ρ' | none => dLcL g tt te vs k ds xs ρ') fun o ho => ?_
    have h' : ∀ d ∈ ds, ∀ K : Option D → List Sl → Prop, (∀ o : Option D, (∀ y, o = some y → G y) → K o ρ) → stepLc g tt te vs d K ρ := fun d hd => h d (List.mem_cons_of_mem _ hd)
    cases o with
    | none => exact lc_good0 G h' (by omega) hx fun ys h1 h2 => q ys h1 (by simp only [List.length_cons]; omega)
    | some y =>
      refine ⟨by omega, lc_good0 G h' (by simp; omega) (fun z hz => ?_) fun ys h1 h2 => q ys h1 (by simp at h2; simp only [List.length_cons]; omega)⟩
      rcases List.mem_append.mp hz with hz | hz
      · exact hx z hz
      · rw [List.mem_singleton.mp hz]
        exact ho y rfl
section
variable {α : Type} {g : TDg} {tt : TDt} {te : TD} {vs : List Nat} {k : Kn} {ρ : List Sl} {tok : Tok k}
theorem lc_mapA (g0 : α → D) (f : α → D) {l : List α} (h : ∀ a ∈ l, ∀ K : Option D → List Sl → Prop, K (some (f a)) ρ → stepLc g tt te vs (g0 a) K ρ) (hl : l.length ≤ 16777216) (q : k (.d (.lst (l.map f))) ρ) : LcR g tt te vs k tok (l.map g0) ρ :=
  lc_mapA0 (xs := []) g0 f h (by simpa using hl) q
theorem lc_mapF (g0 : α → D) (p : α → Bool) (f : α → D) {l : List α} (h : ∀ a ∈ l, ∀ K : Option D → List Sl → Prop, K (if p a then some (f a) else none) ρ → stepLc g tt te vs (g0 a) K ρ) (hl : l.length ≤ 16777216) (q : k (.d (.lst ((l.filter p).map f))) ρ) : LcR g tt te vs k tok (l.map g0) ρ :=
  lc_mapF0 (xs := []) g0 p f h (by simpa using hl) q
theorem lc_good (G : D → Prop) {ds : List D} (h : ∀ d ∈ ds, ∀ K : Option D → List Sl → Prop, (∀ o : Option D, (∀ y, o = some y → G y) → K o ρ) → stepLc g tt te vs d K ρ) (hl : ds.length ≤ 16777216) (q : ∀ ys, (∀ y ∈ ys, G y) → ys.length ≤ ds.length → k (.d (.lst ys)) ρ) : LcR g tt te vs k tok ds ρ :=
  lc_good0 (xs := []) G h (by simpa using hl) (fun _ z => nomatch z) fun ys h1 h2 => q ys h1 (by simpa using h2)
end
theorem for_inv0 {g : TDg} {tb : TDs} {kd : KD} (J : List D → List Sl → Prop) (step : ∀ d ds ρ, J (d :: ds) ρ → ∀ kd' : KD, kd'.rt = kd.rt → kd'.x = kd.x → (∀ ρ', J ds ρ' → kd'.nx ρ') → (∀ ρ', J ds ρ' → kd'.ct ρ') → (∀ ρ', kd.nx ρ' → kd'.bk ρ') → g d ρ fun ρ1 => tb kd' ρ1)
    (fin : ∀ ρ, J [] ρ → kd.nx ρ) : ∀ {ds : List D} {ρ : List Sl}, J ds ρ → dForL g tb kd ds ρ
  | [], ρ, h => fin ρ h
  | d :: ds, ρ, h => step d ds ρ h { kd with nx := fun ρ2 => dForL g tb kd ds ρ2, ct := fun ρ2 => dForL g tb kd ds ρ2, bk := kd.nx } rfl rfl (fun ρ' h' => for_inv0 J step fin h') (fun ρ' h' => for_inv0 J step fin h') fun _ h' => h'
theorem for_inv {g : TDg} {tb : TDs} {kd : KD} {tok : Tok kd} (J : List D → List Sl → Prop) (step : ∀ d ds ρ, J (d :: ds) ρ → ∀ kd' : KD, kd'.rt = kd.rt → kd'.x = kd.x → (∀ ρ', J ds ρ' → kd'.nx ρ') → (∀ ρ', J ds ρ' → kd'.ct ρ') → (∀ ρ', kd.nx ρ' → kd'.bk ρ') → g d ρ fun ρ1 => tb kd' ρ1)
    (fin : ∀ ρ, J [] ρ → kd.nx ρ) {ds : List D} {ρ : List Sl} (h : J ds ρ) : ForR g tb kd tok ds ρ := for_inv0 J step fin h
end DL
namespace DL
open PySem PySem.Spec PyProof.Rows L2
def eqvL : List D → List D → Bool
  | [], [] => true
  | a :: as, b :: bs => a.eqv b && eqvL as bs
  | [], _ :: _ => false
  | _ :: _, [] => false
theorem eqvL_py : ∀ as bs : List D, PyData.eqvAll (D.pyL as) (D.pyL bs) = eqvL as bs
  | [], [] => rfl
  | a :: as, b :: bs => by
    simp only [D.pyL, PyData.eqvAll, eqvL, eqvL_py as bs]
    rfl
  | [], _ :: _ => rfl
  | _ :: _, [] => rfl
@[simp] theorem eqvL_nil : eqvL [] [] = true := rfl
@[simp] theorem eqvL_cons (a b : D) (as bs : List D) : eqvL (a :: as) (b :: bs) = (a.eqv b && eqvL as bs) := rfl
@[simp] theorem eqvL_nc (b : D) (bs : List D) : eqvL [] (b :: bs) = false := rfl
@[simp] theorem eqvL_cn (a : D) (as : List D) : eqvL (a :: as) [] = false := rfl
@[simp] theorem eqvL_nilr (as : List D) : eqvL as [] = as.isEmpty := by cases as <;> rfl
@[simp] theorem eqvL_nill (as : List D) : eqvL [] as = as.isEmpty := by cases as <;> rfl
@[simp] theorem eqv_str (a b : Str) : D.eqv (.str a) (.str b) = (a == b) := by simp [D.eqv, D.py, PyData.eqv]
@[simp] theorem eqv_int (a b : Int) : D.eqv (.int a) (.int b) = (a == b) := by simp [D.eqv, D.py, PyData.eqv]
@[simp] theorem eqv_bl (a b : Bool) : D.eqv (.bl a) (.bl b) = (a == b) := by simp [D.eqv, D.py, PyData.eqv]
@[simp] theorem eqv_non : D.eqv .non .non = true := rfl
@[simp] theorem eqv_tup (as bs : List D) : D.eqv (.tup as) (.tup bs) = eqvL as bs := by simp [D.eqv, D.py, PyData.eqv, eqvL_py]
@[simp] theorem eqv_lst (as bs : List D) : D.eqv (.lst as) (.lst bs) = eqvL as bs := by simp [D.eqv, D.py, PyData.eqv, eqvL_py]
@[simp] theorem eqv_non_bl  (b : Bool) : D.eqv .non (.bl b) = false := by simp [D.eqv, D.py, PyData.eqv]
@[simp] theorem eqv_non_int  (b : Int) : D.eqv .non (.int b) = false := by simp [D.eqv, D.py, PyData.eqv]
@[simp] theorem eqv_non_str  (b : Str) : D.eqv .non (.str b) = false := by simp [D.eqv, D.py, PyData.eqv]
@[simp] theorem eqv_non_tup  (bs : List D) : D.eqv .non (.tup bs) = false := by simp [D.eqv, D.py, PyData.eqv]
@[simp] theorem eqv_non_lst  (bs : List D) : D.eqv .non (.lst bs) = false := by simp [D.eqv, D.py, PyData.eqv]
@[simp] theorem eqv_bl_non (a : Bool)  : D.eqv (.bl a) .non = false := by simp [D.eqv, D.py, PyData.eqv]
@[simp] theorem eqv_bl_str (a : Bool) (b : Str) : D.eqv (.bl a) (.str b) = false := by simp [D.eqv, D.py, PyData.eqv]
@[simp] theorem eqv_bl_tup (a : Bool) (bs : List D) : D.eqv (.bl a) (.tup bs) = false := by simp [D.eqv, D.py, PyData.eqv]
@[simp] theorem eqv_bl_lst (a : Bool) (bs : List D) : D.eqv (.bl a) (.lst bs) = false := by simp [D.eqv, D.py, PyData.eqv]
@[simp] theorem eqv_int_non (a : Int)  : D.eqv (.int a) .non = false := by simp [D.eqv, D.py, PyData.eqv]
@[simp] theorem eqv_int_str (a : Int) (b : Str) : D.eqv (.int a) (.str b) = false := by simp [D.eqv, D.py, PyData.eqv]
@[simp] theorem eqv_int_tup (a : Int) (bs : List D) : D.eqv (.int a) (.tup bs) = false := by simp [D.eqv, D.py, PyData.eqv]
@[simp] theorem eqv_int_lst (a : Int) (bs : List D) : D.eqv (.int a) (.lst bs) = false := by simp [D.eqv, D.py, PyData.eqv]
@[simp] theorem eqv_str_non (a : Str)  : D.eqv (.str a) .non = false := by simp [D.eqv, D.py, PyData.eqv]
@[simp] theorem eqv_str_bl (a : Str) (b : Bool) : D.eqv (.str a) (.bl b) = false := by simp [D.eqv, D.py, PyData.eqv]
@[simp] theorem eqv_str_int (a : Str) (b : Int) : D.eqv (.str a) (.int b) = false := by simp [D.eqv, D.py, PyData.eqv]
@[simp] theorem eqv_str_tup (a : Str) (bs : List D) : D.eqv (.str a) (.tup bs) = false := by simp [D.eqv, D.py, PyData.eqv]
@[simp] theorem eqv_str_lst (a : Str) (bs : List D) : D.eqv (.str a) (.lst bs) = false := by simp [D.eqv, D.py, PyData.eqv]
@[simp] theorem eqv_tup_non (as : List D)  : D.eqv (.tup as) .non = false := by simp [D.eqv, D.py, PyData.eqv]
@[simp] theorem eqv_tup_bl (as : List D) (b : Bool) : D.eqv (.tup as) (.bl b) = false := by simp [D.eqv, D.py, PyData.eqv]
@[simp] theorem eqv_tup_int (as : List D) (b : Int) : D.eqv (.tup as) (.int b) = false := by simp [D.eqv, D.py, PyData.eqv]
@[simp] theorem eqv_tup_str (as : List D) (b : Str) : D.eqv (.tup as) (.str b) = false := by simp [D.eqv, D.py, PyData.eqv]
@[simp] theorem eqv_tup_lst (as : List D) (bs : List D) : D.eqv (.tup as) (.lst bs) = false := by simp [D.eqv, D.py, PyData.eqv]
@[simp] theorem eqv_lst_non (as : List D)  : D.eqv (.lst as) .non = false := by simp [D.eqv, D.py, PyData.eqv]
@[simp] theorem eqv_lst_bl (as : List D) (b : Bool) : D.eqv (.lst as) (.bl b) = false := by simp [D.eqv, D.py, PyData.eqv]
@[simp] theorem eqv_lst_int (as : List D) (b : Int) : D.eqv (.lst as) (.int b) = false := by simp [D.eqv, D.py, PyData.eqv]
@[simp] theorem eqv_lst_str (as : List D) (b : Str) : D.eqv (.lst as) (.str b) = false := by simp [D.eqv, D.py, PyData.eqv]
@[simp] theorem eqv_lst_tup (as : List D) (bs : List D) : D.eqv (.lst as) (.tup bs) = false := by simp [D.eqv, D.py, PyData.eqv]

mutual
def D.dep : D → Nat
  | .tup ds => depL ds + 1
  | .lst ds => depL ds + 1
  | .dct _ => 1
  | .ins _ _ => 1
  | .raw _ => 1
  | .drw => 1
  | .lsq _ => 1
  | _ => 0
def depL : List D → Nat
  | [] => 0
  | d :: ds => max d.dep (depL ds)
end
mutual
theorem dep_py : ∀ d : D, d.py.depth = d.dep
  | .non => rfl
  | .bl _ => rfl
  | .int _ => rfl
  | .str _ => rfl
  | .tup ds => by simp only [D.py, PyData.depth, D.dep, depL_py ds]
  | .lst ds => by simp only [D.py, PyData.depth, D.dep, depL_py ds]
  | .dct _ => rfl
  | .ins _ _ => rfl
  | .raw _ => rfl
  | .drw => rfl
  | .lsq _ => rfl
theorem depL_py : ∀ ds : List D, PyData.depthAll (D.pyL ds) = depL ds
  | [] => rfl
  | d :: ds => by simp only [D.pyL, PyData.depthAll, depL, dep_py d, depL_py ds]
end
@[simp] theorem shal_iff (d : D) : d.shal ↔ d.dep ≤ 64 := by unfold D.shal; rw [dep_py]
@[simp] theorem dep_non : D.dep .non = 0 := rfl
@[simp] theorem dep_bl (b : Bool) : D.dep (.bl b) = 0 := rfl
@[simp] theorem dep_int (b : Int) : D.dep (.int b) = 0 := rfl
@[simp] theorem dep_str (b : Str) : D.dep (.str b) = 0 := rfl
@[simp] theorem dep_tup (b : List D) : D.dep (.tup b) = depL b + 1 := rfl
@[simp] theorem dep_lst (b : List D) : D.dep (.lst b) = depL b + 1 := rfl
@[simp] theorem depL_nil : depL [] = 0 := rfl
@[simp] theorem depL_cons (d : D) (ds : List D) : depL (d :: ds) = max d.dep (depL ds) := rfl
@[simp] theorem pure_non : D.pure .non = true := rfl
@[simp] theorem pure_bl (b : Bool) : D.pure (.bl b) = true := rfl
@[simp] theorem pure_int (b : Int) : D.pure (.int b) = true := rfl
@[simp] theorem pure_str (b : Str) : D.pure (.str b) = true := rfl
@[simp] theorem pure_tup (b : List D) : D.pure (.tup b) = b.all D.pure := pureL_all b
@[simp] theorem pure_lst (b : List D) : D.pure (.lst b) = b.all D.pure := pureL_all b
@[simp] theorem flat_non : D.flat .non = true := rfl
@[simp] theorem flat_bl (b : Bool) : D.flat (.bl b) = true := rfl
@[simp] theorem flat_int (b : Int) : D.flat (.int b) = true := rfl
@[simp] theorem flat_str (b : Str) : D.flat (.str b) = true := rfl
@[simp] theorem depL_strs (ss : List Str) : depL (ss.map D.str) = 0 := by
  induction ss with
  | nil => rfl
  | cons s ss ih => simp [ih]
@[simp] theorem eqvL_strs (ss tt : List Str) : eqvL (ss.map D.str) (tt.map D.str) = (ss == tt) := by
  induction ss generalizing tt with
  | nil => cases tt <;> rfl
  | cons s ss ih =>
    cases tt with
    | nil => rfl
    | cons t tt => simp [ih]
@[simp] theorem inD_nil (x : D) : inD x [] = false := rfl
@[simp] theorem inD_cons (x y : D) (ys : List D) : inD x (y :: ys) = (y.eqv x || inD x ys) := rfl
@[simp] theorem inD_strs (s : Str) (ss : List Str) : inD (.str s) (ss.map D.str) = decide (s ∈ ss) := by
  induction ss with
  | nil => rfl
  | cons t ss ih =>
    simp only [List.map_cons, inD_cons, ih, eqv_str, List.mem_cons]
    by_cases h : t = s
    · simp [h]
    · have h2 : ¬ s = t := fun z => h z.symm
      simp [h, h2]
@[simp] theorem isNon_non : D.isNon .non = true := rfl
@[simp] theorem isNon_bl (b : Bool) : D.isNon (.bl b) = false := rfl
@[simp] theorem isNon_int (b : Int) : D.isNon (.int b) = false := rfl
@[simp] theorem isNon_str (b : Str) : D.isNon (.str b) = false := rfl
@[simp] theorem isNon_tup (b : List D) : D.isNon (.tup b) = false := rfl
@[simp] theorem isNon_lst (b : List D) : D.isNon (.lst b) = false := rfl
@[simp] theorem known_non : D.known .non = true := rfl
@[simp] theorem known_bl (b : Bool) : D.known (.bl b) = true := rfl
@[simp] theorem known_int (b : Int) : D.known (.int b) = true := rfl
@[simp] theorem known_str (b : Str) : D.known (.str b) = true := rfl
@[simp] theorem known_tup (b : List D) : D.known (.tup b) = true := rfl
@[simp] theorem known_lst (b : List D) : D.known (.lst b) = true := rfl
@[simp] theorem ty_non : D.ty .non = some "NoneType" := rfl
@[simp] theorem ty_bl (b : Bool) : D.ty (.bl b) = some "bool" := rfl
@[simp] theorem ty_int (b : Int) : D.ty (.int b) = some "int" := rfl
@[simp] theorem ty_str (b : Str) : D.ty (.str b) = some "str" := rfl
@[simp] theorem ty_tup (b : List D) : D.ty (.tup b) = some "tuple" := rfl
@[simp] theorem ty_lst (b : List D) : D.ty (.lst b) = some "list" := rfl
@[simp] theorem ty_dct (b : List (Key × D)) : D.ty (.dct b) = some "dict" := rfl
@[simp] theorem isiB_NoneType_str : isiB "NoneType" "str" = false := by decide
@[simp] theorem isiB_NoneType_int : isiB "NoneType" "int" = false := by decide
@[simp] theorem isiB_NoneType_tuple : isiB "NoneType" "tuple" = false := by decide
@[simp] theorem isiB_NoneType_list : isiB "NoneType" "list" = false := by decide
@[simp] theorem isiB_NoneType_bool : isiB "NoneType" "bool" = false := by decide
@[simp] theorem isiB_NoneType_dict : isiB "NoneType" "dict" = false := by decide
@[simp] theorem isiB_bool_str : isiB "bool" "str" = false := by decide
@[simp] theorem isiB_bool_int : isiB "bool" "int" = true := by decide
@[simp] theorem isiB_bool_tuple : isiB "bool" "tuple" = false := by decide
@[simp] theorem isiB_bool_list : isiB "bool" "list" = false := by decide
@[simp] theorem isiB_bool_bool : isiB "bool" "bool" = true := by decide
@[simp] theorem isiB_bool_dict : isiB "bool" "dict" = false := by decide
@[simp] theorem isiB_int_str : isiB "int" "str" = false := by decide
@[simp] theorem isiB_int_int : isiB "int" "int" = true := by decide
@[simp] theorem isiB_int_tuple : isiB "int" "tuple" = false := by decide
@[simp] theorem isiB_int_list : isiB "int" "list" = false := by decide
@[simp] theorem isiB_int_bool : isiB "int" "bool" = false := by decide
@[simp] theorem isiB_int_dict : isiB "int" "dict" = false := by decide
@[simp] theorem isiB_str_str : isiB "str" "str" = true := by decide
@[simp] theorem isiB_str_int : isiB "str" "int" = false := by decide
@[simp] theorem isiB_str_tuple : isiB "str" "tuple" = false := by decide
@[simp] theorem isiB_str_list : isiB "str" "list" = false := by decide
@[simp] theorem isiB_str_bool : isiB "str" "bool" = false := by decide
@[simp] theorem isiB_str_dict : isiB "str" "dict" = false := by decide
@[simp] theorem isiB_tuple_str : isiB "tuple" "str" = false := by decide
@[simp] theorem isiB_tuple_int : isiB "tuple" "int" = false := by decide
@[simp] theorem isiB_tuple_tuple : isiB "tuple" "tuple" = true := by decide
@[simp] theorem isiB_tuple_list : isiB "tuple" "list" = false := by decide
@[simp] theorem isiB_tuple_bool : isiB "tuple" "bool" = false := by decide
@[simp] theorem isiB_tuple_dict : isiB "tuple" "dict" = false := by decide
@[simp] theorem isiB_list_str : isiB "list" "str" = false := by decide
@[simp] theorem isiB_list_int : isiB "list" "int" = false := by decide
@[simp] theorem isiB_list_tuple : isiB "list" "tuple" = false := by decide
@[simp] theorem isiB_list_list : isiB "list" "list" = true := by decide
@[simp] theorem isiB_list_bool : isiB "list" "bool" = false := by decide
@[simp] theorem isiB_list_dict : isiB "list" "dict" = false := by decide
@[simp] theorem isiB_dict_str : isiB "dict" "str" = false := by decide
@[simp] theorem isiB_dict_int : isiB "dict" "int" = false := by decide
@[simp] theorem isiB_dict_tuple : isiB "dict" "tuple" = false := by decide
@[simp] theorem isiB_dict_list : isiB "dict" "list" = false := by decide
@[simp] theorem isiB_dict_bool : isiB "dict" "bool" = false := by decide
@[simp] theorem isiB_dict_dict : isiB "dict" "dict" = true := by decide

theorem atI_nat {α : Type} (xs : List α) (n : Nat) : atI xs (n : Int) = xs[n]? := by
  unfold atI ixN
  rw [if_pos (by omega)]
  by_cases h : (n : Int) < (xs.length : Int)
  · rw [if_pos h]
    simp
  · rw [if_neg h, List.getElem?_eq_none (by omega)]
    rfl
@[simp] theorem atI_0 {α : Type} (x : α) (xs : List α) : atI (x :: xs) 0 = some x := atI_nat _ 0
@[simp] theorem atI_1 {α : Type} (x y : α) (xs : List α) : atI (x :: y :: xs) 1 = some y := atI_nat _ 1
@[simp] theorem atI_2 {α : Type} (x y z : α) (xs : List α) : atI (x :: y :: z :: xs) 2 = some z := atI_nat _ 2
@[simp] theorem atI_3 {α : Type} (x y z w : α) (xs : List α) : atI (x :: y :: z :: w :: xs) 3 = some w := atI_nat _ 3
@[simp] theorem ixN_last (n : Nat) : ixN (n + 1) (-1) = some n := by
  unfold ixN
  rw [if_neg (by omega), if_pos (by omega)]
  congr 1
  omega
@[simp] theorem atI_last {α : Type} (xs : List α) (x : α) : atI (xs ++ [x]) (-1) = some x := by
  unfold atI
  rw [List.length_append, List.length_singleton, ixN_last]
  simp
theorem cutD_from (xs : List D) (n : Nat) : cutD xs (some (n : Int)) none = xs.drop n := by
  unfold cutD
  rw [HT.sIx_nat, HT.sIx_none]
  by_cases h : n ≤ xs.length
  · rw [Nat.min_eq_left h, List.take_of_length_le (by rw [List.length_drop]; exact Nat.le_refl _)]
  · rw [Nat.min_eq_right (by omega), List.drop_eq_nil_of_le (Nat.le_refl _), List.drop_eq_nil_of_le (by omega)]
    simp
theorem cutD_to (xs : List D) (n : Nat) : cutD xs none (some (n : Int)) = xs.take n := by
  unfold cutD
  rw [HT.sIx_nat, HT.sIx_none]
  by_cases h : n ≤ xs.length
  · rw [Nat.min_eq_left h]; simp
  · rw [Nat.min_eq_right (by omega)]
    simp only [List.drop_zero, Nat.sub_zero]
    rw [List.take_of_length_le (by omega), List.take_of_length_le (by omega)]
@[simp] theorem cutD_init (xs : List D) (x : D) : cutD (xs ++ [x]) none (some (-1)) = xs := by
  unfold cutD
  rw [HT.sIx_none]
  have e : HT.sIx (xs ++ [x]).length (xs ++ [x]).length (some (-1)) = xs.length := by
    unfold HT.sIx
    rw [List.length_append, List.length_singleton]
    simp only []
    rw [if_pos (by omega)]
    omega
  rw [e]
  simp
theorem cutS_from (z : Str) (n : Nat) : cutS z (some (n : Int)) none = mkS (z.cps.toList.drop n) := by
  unfold cutS mkS
  rw [HT.sIx_nat, HT.sIx_none]
  have hl : z.length = z.cps.toList.length := by simp [Str.length]
  congr 2
  by_cases h : n ≤ z.length
  · rw [Nat.min_eq_left h, List.take_of_length_le (by rw [List.length_drop, hl]; exact Nat.le_refl _)]
  · rw [Nat.min_eq_right (by omega), List.drop_eq_nil_of_le (by omega), List.drop_eq_nil_of_le (by omega)]
    simp
theorem cutS_to (z : Str) (n : Nat) : cutS z none (some (n : Int)) = mkS (z.cps.toList.take n) := by
  unfold cutS mkS
  rw [HT.sIx_nat, HT.sIx_none]
  have hl : z.length = z.cps.toList.length := by simp [Str.length]
  congr 2
  by_cases h : n ≤ z.length
  · rw [Nat.min_eq_left h]; simp
  · rw [Nat.min_eq_right (by omega)]
    simp only [List.drop_zero, Nat.sub_zero]
    rw [List.take_of_length_le (by omega), List.take_of_length_le (by omega)]
@[simp] theorem cutD_from1 (xs : List D) : cutD xs (some 1) none = xs.drop 1 := cutD_from xs 1
@[simp] theorem cutD_to1 (xs : List D) : cutD xs none (some 1) = xs.take 1 := cutD_to xs 1
@[simp] theorem cutS_from1 (z : Str) : cutS z (some 1) none = mkS (z.cps.toList.drop 1) := cutS_from z 1
@[simp] theorem cutS_to1 (z : Str) : cutS z none (some 1) = mkS (z.cps.toList.take 1) := cutS_to z 1
@[simp] theorem cutD_from2 (xs : List D) : cutD xs (some 2) none = xs.drop 2 := cutD_from xs 2
@[simp] theorem cutD_to2 (xs : List D) : cutD xs none (some 2) = xs.take 2 := cutD_to xs 2
@[simp] theorem cutS_from2 (z : Str) : cutS z (some 2) none = mkS (z.cps.toList.drop 2) := cutS_from z 2
@[simp] theorem cutS_to2 (z : Str) : cutS z none (some 2) = mkS (z.cps.toList.take 2) := cutS_to z 2
@[simp] theorem cutD_from3 (xs : List D) : cutD xs (some 3) none = xs.drop 3 := cutD_from xs 3
@[simp] theorem cutD_to3 (xs : List D) : cutD xs none (some 3) = xs.take 3 := cutD_to xs 3
@[simp] theorem cutS_from3 (z : Str) : cutS z (some 3) none = mkS (z.cps.toList.drop 3) := cutS_from z 3
@[simp] theorem cutS_to3 (z : Str) : cutS z none (some 3) = mkS (z.cps.toList.take 3) := cutS_to z 3
@[simp] theorem cutD_from4 (xs : List D) : cutD xs (some 4) none = xs.drop 4 := cutD_from xs 4
@[simp] theorem cutD_to4 (xs : List D) : cutD xs none (some 4) = xs.take 4 := cutD_to xs 4
@[simp] theorem cutS_from4 (z : Str) : cutS z (some 4) none = mkS (z.cps.toList.drop 4) := cutS_from z 4
@[simp] theorem cutS_to4 (z : Str) : cutS z none (some 4) = mkS (z.cps.toList.take 4) := cutS_to z 4
@[simp] theorem cutD_from5 (xs : List D) : cutD xs (some 5) none = xs.drop 5 := cutD_from xs 5
@[simp] theorem cutD_to5 (xs : List D) : cutD xs none (some 5) = xs.take 5 := cutD_to xs 5
@[simp] theorem cutS_from5 (z : Str) : cutS z (some 5) none = mkS (z.cps.toList.drop 5) := cutS_from z 5
@[simp] theorem cutS_to5 (z : Str) : cutS z none (some 5) = mkS (z.cps.toList.take 5) := cutS_to z 5
@[simp] theorem cutD_from63 (xs : List D) : cutD xs (some 63) none = xs.drop 63 := cutD_from xs 63
@[simp] theorem cutD_to63 (xs : List D) : cutD xs none (some 63) = xs.take 63 := cutD_to xs 63
@[simp] theorem cutS_from63 (z : Str) : cutS z (some 63) none = mkS (z.cps.toList.drop 63) := cutS_from z 63
@[simp] theorem cutS_to63 (z : Str) : cutS z none (some 63) = mkS (z.cps.toList.take 63) := cutS_to z 63
@[simp ↓] theorem val_own {ρ : List Sl} {i : Nat} {k : D → Prop} : val ρ (.own i) k = match ρ[i]? with
    | some (.o xs) => k (.lst xs)
    | _ => False := rfl
@[simp ↓] theorem frz_own {ρ : List Sl} {i : Nat} {k : D → List Sl → Prop} : frz ρ (.own i) k = match ρ[i]? with
    | some (.o xs) => k (.lst xs) (ρ.set i (.d (.lst xs)))
    | _ => False := rfl
@[simp] theorem wipeS_nil (ρ : List Sl) : wipeS ρ [] = ρ := rfl
@[simp] theorem wipeS_cons (ρ : List Sl) (v : Nat) (vs : List Nat) : wipeS ρ (v :: vs) = (wipeS ρ vs).set v .u := rfl
theorem all_map_bl {α : Type} (l : List α) (p : α → Bool) : (l.map fun a => D.bl (p a)) = (l.map p).map D.bl := by simp
theorem slen (s : Str) : s.length = s.cps.toList.length := by simp [Str.length]
theorem kbl {k : D → Prop} {a b : Bool} (q : k (.bl a)) (e : b = a) : k (.bl b) := by rw [e]; exact q
theorem kd_ {k : D → Prop} {a b : D} (q : k a) (e : b = a) : k b := by rw [e]; exact q
theorem bnot_ex {X : Bool} {P : Bool → Prop} (h : P (!X)) : ∃ b, X = (!b) ∧ P b := ⟨!X, by simp, h⟩
theorem ie_filter {α : Type} (l : List α) (p : α → Bool) : (l.filter p).isEmpty = l.all fun a => !p a := by
  induction l with
  | nil => rfl
  | cons a l ih =>
    by_cases h : p a = true <;> simp [h, ih]
theorem pure_strs {α : Type} (l : List α) (f : α → Str) : ∀ x ∈ l.map fun a => D.str (f a), x.pure = true := fun x hx => by
  obtain ⟨a, _, rfl⟩ := List.mem_map.mp hx
  rfl
@[simp] theorem mkS_cps (l : List Nat) : (mkS l).cps.toList = l := by simp [mkS]
@[simp] theorem mkS_len (l : List Nat) : (mkS l).length = l.length := by simp [mkS, Str.length]
theorem str_ext {s t : Str} (h : s.cps.toList = t.cps.toList) : s = t := by
  cases s with
  | mk a =>
    cases t with
    | mk b =>
      congr 1
      exact Array.toList_inj.mp h
theorem mkS_of (s : Str) : mkS s.cps.toList = s := str_ext (by simp)
theorem str_one (c : Nat) : (⟨#[c]⟩ : Str) = mkS [c] := rfl
@[simp] theorem lit_sp : (PySem.Str.ofString " ") = ⟨#[32]⟩ := by decide +kernel
@[simp] theorem lit_nl : (PySem.Str.ofString "
") = ⟨#[10]⟩ := by decide +kernel
@[simp] theorem lit_sp2 : (PySem.Str.ofString "  ") = ⟨#[32, 32]⟩ := by decide +kernel
@[simp] theorem lit_0 : (PySem.Str.ofString "") = ⟨#[]⟩ := by decide +kernel
@[simp] theorem len_lit (a : Array Nat) : Str.length ⟨a⟩ = a.size := rfl
theorem beq_lit {s t : Str} : (s == t) = decide (s.cps.toList = t.cps.toList) := by
  by_cases h : s = t
  · subst h; simp
  · have h2 : ¬ s.cps.toList = t.cps.toList := fun z => h (str_ext z)
    simp [h, h2]
end DL
namespace DL
open PySem PySem.Spec PyProof.Rows L2
def ded : List Str → List Str := fun l => l.foldl (fun acc x => if acc.contains x then acc else acc ++ [x]) []
theorem ded_snoc (l : List Str) (x : Str) : ded (l ++ [x]) = if (ded l).contains x then ded l else ded l ++ [x] := by simp [ded]
theorem ded_le : ∀ (n : Nat) (l : List Str), l.length = n → (ded l).length ≤ l.length
  | 0, l, h => by
    cases l with
    | nil => simp [ded]
    | cons _ _ => cases h
  | n + 1, l, h => by
    have e : l ≠ [] := by
      intro z
      rw [z] at h
      cases h
    obtain ⟨m, x, rfl⟩ : ∃ m x, l = m ++ [x] := ⟨l.dropLast, l.getLast e, (List.dropLast_concat_getLast e).symm⟩
    have ih := ded_le n m (by simpa using h)
    rw [ded_snoc]
    split <;> simp <;> omega
theorem ded_mem (x : Str) : ∀ (n : Nat) (l : List Str), l.length = n → (x ∈ ded l ↔ x ∈ l)
  | 0, l, h => by
    cases l with
    | nil => simp [ded]
    | cons _ _ => cases h
  | n + 1, l, h => by
    have e : l ≠ [] := by
      intro z
      rw [z] at h
      cases h
    obtain ⟨m, y, rfl⟩ : ∃ m x, l = m ++ [x] := ⟨l.dropLast, l.getLast e, (List.dropLast_concat_getLast e).symm⟩
    have hm : m.length = n := by simpa using h
    have ih := ded_mem x n m hm
    rw [ded_snoc]
    by_cases c : (ded m).contains y = true
    · rw [if_pos c, ih]
      have c2 : y ∈ ded m := by simpa using c
      simp only [List.mem_append, List.mem_singleton]
      exact ⟨.inl, fun h => h.elim id fun h => by rw [h]; exact (ded_mem y n m hm).mp c2⟩
    · rw [if_neg c]
      simp [ih]
theorem ded_full : ∀ (n : Nat) (l : List Str), l.length = n → ((ded l).length = l.length ↔ l.Nodup)
  | 0, l, h => by
    cases l with
    | nil => simp [ded]
    | cons _ _ => cases h
  | n + 1, l, h => by
    have e : l ≠ [] := by
      intro z
      rw [z] at h
      cases h
    obtain ⟨m, y, rfl⟩ : ∃ m x, l = m ++ [x] := ⟨l.dropLast, l.getLast e, (List.dropLast_concat_getLast e).symm⟩
    have hm : m.length = n := by simpa using h
    have ih := ded_full n m hm
    have le := ded_le n m hm
    have mm := ded_mem y n m hm
    rw [ded_snoc]
    by_cases c : (ded m).contains y = true
    · rw [if_pos c]
      have c2 : y ∈ m := mm.mp (by simpa using c)
      constructor
      · intro z
        simp at z
        omega
      · intro z
        have := (List.nodup_append.mp z).2.2 y c2 y (by simp)
        exact absurd rfl this
    · rw [if_neg c]
      have c2 : y ∉ m := fun z => c (by simpa using mm.mpr z)
      rw [List.length_append, List.length_append, List.nodup_append]
      constructor
      · intro z
        refine ⟨ih.mp (by simpa using z), by simp, fun a ha b hb => ?_⟩
        simp at hb
        rw [hb]
        intro q
        exact c2 (q ▸ ha)
      · intro z
        rw [ih.mpr z.1]
section
variable {prog : Program} {w : World} {A : Around} {R : Result → Shared → Prop} {I : Addr} {fp wr : List Addr} {G : Array GenState → Array GenState → Prop} {n : Nat} {P : Nat → Value → Prop} {St : Nat → Shared → Prop}
def dk (xs : List Str) (i : Nat) : Str → Bool := fun k => (ded (xs.take i)).contains k
theorem loopD (W : WalksS prog w A.in1 I fp wr G n P St) (S : Addr) (out : S ∉ fp) (xs : List Str) (len : xs.length = n) (val : ∀ i v, P i v → ∃ t, v = .str (xs.getD i Str.empty) t) (room : n + 1 < scanBound) (k : Nat) :
    ∀ (i : Nat) (s : Shared), i + k = n → St i s → s.heap.SetOf (PySem.strKind prog w) S (dk xs i) (ded (xs.take i)).length →
      (∀ s', Moved (S :: wr) G s s' → s'.heap.SetOf (PySem.strKind prog w) S (dk xs n) (ded (xs.take n)).length → R (.ok (.ret .none)) s') → codeAny (model prog w) A (.builtin "set.update.loop" ⟨[.ref S, .ref I], []⟩) R s := by
  have inw : S ∉ wr := fun h => out (W.sub _ h)
  have more : ∀ b ∈ wr, b ∈ S :: wr := fun b hb => .tail _ hb
  have stay : ∀ {s s' : Shared} {F : Str → Bool} {c : Nat}, Moved wr G s s' → s.heap.SetOf (PySem.strKind prog w) S F c → s'.heap.SetOf (PySem.strKind prog w) S F c := fun {s s' F c} m ⟨o, es, ep, t, ho, r⟩ => ⟨o, es, ep, t, m.heap S _ inw ho, r⟩
  induction k with
  | zero =>
    intro i s e st hS fin
    obtain rfl : i = n := by omega
    refine codeAny_builtin PyProof.Rows.F.entry_set_update_loop (by rw [Around.under_plainId PyProof.Rows.F.plain_set_update_loop _]; exact wpAny_bind (W.done s _ _ st fun s' m => wpAny_pure (fin s' (m.mono more) (stay m hS))))
  | succ k ih =>
    intro i s e st hS fin
    have lt : i < n := by omega
    refine codeAny_builtin PyProof.Rows.F.entry_set_update_loop (by
      rw [Around.under_plainId PyProof.Rows.F.plain_set_update_loop _]
      refine wpAny_bind (W.item i s _ _ lt st fun v s' hv st' m => ?_)
      obtain ⟨t, rfl⟩ := val i v hv
      have hS1 := stay m hS
      have few : (ded (xs.take i)).length + 1 < scanBound := by
        have h1 := ded_le _ (xs.take i) rfl
        rw [List.length_take] at h1
        omega
      have nxt : xs.take (i + 1) = xs.take i ++ [xs.getD i Str.empty] := by
        rw [List.take_add_one, List.getD_eq_getElem?_getD, List.getElem?_eq_getElem (by omega)]
        rfl
      show wpAny _ A.in1 (holding [Value.str (xs.getD i Str.empty) t] (setAdd S (.str (xs.getD i Str.empty) t)) >>= _) _ _ s'
      unfold setAdd
      refine wpAny_bind (wpAny_holding (wpAny_holding (wpAny_bind ((PySem.strKind prog w).pyHash (k := xs.getD i Str.empty) (strKind_is _ _ _ _) ?_))))
      refine wpAny_setAddHashed_of (knd := PySem.strKind prog w) (s := { s' with toks := s'.toks + 1 }) (strKind_is _ _ _ _) rfl hS1 few fun h' same hS2 => ?_
      have hS3 : h'.SetOf (PySem.strKind prog w) S (dk xs (i + 1)) (ded (xs.take (i + 1))).length := by
        refine SetOf_congr hS2 (fun k' => ?_) ?_
        · unfold dk
          rw [nxt, ded_snoc]
          by_cases c : (ded (xs.take i)).contains (xs.getD i Str.empty) = true
          · rw [if_pos c]
            by_cases z : k' = xs.getD i Str.empty
            · rw [z, c]; rfl
            · rw [decide_eq_false z, Bool.or_false]
          · rw [if_neg c, List.contains_append]
            congr 1
            by_cases z : k' = xs.getD i Str.empty <;> simp [z]
        · unfold dk
          rw [nxt, ded_snoc]
          split <;> simp
      refine wpAny_pure ⟨plainId_quiet PyProof.Rows.F.plain_set_update_loop _, ih (i + 1) _ (by omega) (W.frame _ s' _ _ st' (Nat.le_succ _) fun b hb o q => by rw [same.2 b fun z => out (z ▸ hb)]; exact q) hS3 fun s'' m'' q => ?_⟩
      exact fin s'' (Moved.trans W.gtrans ((m.mono more).then_heap (Nat.le_succ _) fun b o hb q => by rw [same.2 b fun z => hb (z ▸ .head _)]; exact q) m'') q)
end
section
variable {prog : Program} {w : World} {A : Around} {E : Value → Shared → Prop} {s : Shared}
def SetD (prog : Program) (w : World) (xs : List Str) (s s' : Shared) : Prop := ∃ h' tk, s' = { s with heap := h', toks := tk } ∧ h'.SetOf (PySem.strKind prog w) s.heap.objs.size (dk xs xs.length) (ded xs).length ∧ ∀ b o, b < s.heap.objs.size → s.heap.get? b = some o → h'.get? b = some o
theorem set_body {l : Addr} {items : Array Value} {xs : List Str} {led : Bool} {R : Result → Shared → Prop} (hh : A.handled = none) (hl : s.heap.IsList l items) (hi : PyProof.Rows.StrsAre items.toList xs) (room : xs.length + 1 < scanBound)
    (fin : ∀ s', SetD prog w xs s s' → R (.ok (.ret .none)) s') :
    wpAny (model prog w) A.in1 (Builtin.«set.__init__» ⟨[.ref s.heap.objs.size, .ref l], []⟩) (fun f s' => match f with
      | .done r => R (.ok r) s'
      | .again c => c.quiet = true ∧ codeAny (model prog w) A c R s') (fun e s' => R (.error e) s') { s with heap := s.heap.push { cls := .type "set", dict := none, data := .set #[] 0 (.fresh 0 0 led) } } := by
  have hS : (s.heap.push { cls := .type "set", dict := none, data := .set #[] 0 (.fresh 0 0 led) }).get? s.heap.objs.size = some { cls := .type "set", dict := none, data := .set #[] 0 (.fresh 0 0 led) } := Heap.get?_push_size _ rfl
  obtain ⟨⟨oc, odi, oda, osl⟩, ho, e1, nl, e2⟩ := hl
  dsimp only at e1 e2
  subst e1
  subst e2
  have hp : (s.heap.push { cls := .type "set", dict := none, data := .set #[] 0 (.fresh 0 0 led) }).get? l = some { cls := .type "list", dict := odi, data := .seq items nl, slots := osl } := Heap.get?_push_of_some _ ho
  have f1 := PySem.F.sub_list_set
  have f2 := PySem.F.sub_list_frozenset
  have f3 : (Value.type "list" == Value.type "dict") = false := by decide
  have il : (s.heap.push { cls := .type "set", dict := none, data := .set #[] 0 (.fresh 0 0 led) }).IsList l items := ⟨_, hp, rfl, nl, rfl⟩
  unfold Builtin.«set.__init__» noKeywords Builtin.Frozenset.updateFrom
  generalize hPI : pyIter = PI
  wp_walk
  subst hPI
  refine wpAny_pyIter_list il (wpAny_bind (wpAny_runValue ?_))
  have lt : l < s.heap.objs.size := Heap.lt_size ho
  have it : (s.heap.push { cls := .type "set", dict := none, data := .set #[] 0 (.fresh 0 0 led) }).objs.size = s.heap.objs.size + 1 := Heap.size_push _ _
  have n1 : l ≠ (s.heap.push { cls := .type "set", dict := none, data := .set #[] 0 (.fresh 0 0 led) }).objs.size := by rw [it]; exact Nat.ne_of_lt (Nat.lt_succ_of_lt lt)
  have n2 : s.heap.objs.size ∉ [(s.heap.push { cls := .type "set", dict := none, data := .set #[] 0 (.fresh 0 0 led) }).objs.size, l] := fun z => by
    rw [it] at z
    rcases List.mem_cons.mp z with z | z
    · exact Nat.ne_of_lt (Nat.lt_succ_self _) z
    · exact Nat.ne_of_gt lt (List.mem_singleton.mp z)
  have sz : xs.length = items.size := by rw [← StrsAre.len_eq hi, Array.length_toList]
  refine loopD ((Walks.list (by simp [hh]) _ l n1 items).toS) s.heap.objs.size n2 xs sz (fun i v hv => SS.strs_at hi i v (by rw [Array.getElem?_toList]; exact hv)) (by omega) items.size 0 _ (by omega) ⟨⟨_, Heap.get?_push_size _ rfl, rfl, rfl⟩, (il.push _)⟩
    (PyProof.Rows.SetOf_congr ((PyProof.Rows.setObjOf_fresh (knd := PySem.strKind prog w) led).setOf (Heap.get?_push_of_some _ hS) (by unfold scanBound; omega)) (fun _ => rfl) rfl) fun s' m q => ?_
  obtain ⟨h', g', d', tk', os'⟩ := s'
  obtain rfl : g' = s.gens := m.gens
  obtain rfl : d' = s.drawn := m.drawn
  obtain rfl : os' = s.os := m.os
  refine wpAny_pure (wpAny_pure (fin _ ⟨h', tk', rfl, by rw [sz]; rw [← sz, List.take_length] at q; rw [← sz]; exact q, fun b o hb e => ?_⟩))
  refine m.heap b o (fun z => ?_) (Heap.get?_push_of_some _ (Heap.get?_push_of_some _ e))
  rw [it] at z
  rcases List.mem_cons.mp z with z | z
  · exact Nat.ne_of_lt hb z
  · exact Nat.ne_of_lt (Nat.lt_succ_of_lt hb) (List.mem_singleton.mp z)
theorem call_setD {l : Addr} {items : Array Value} {xs : List Str} {Q : Value → Shared → Prop} (hh : A.handled = none) (hl : s.heap.IsList l items) (hi : PyProof.Rows.StrsAre items.toList xs) (room : xs.length + 1 < scanBound)
    (h : ∀ s', SetD prog w xs s s' → Q (.ref s.heap.objs.size) s') : wpAny (model prog w) A (call (.type "set") [.ref l]) Q E s := by
  obtain ⟨c, tl, f0⟩ := PySem.F.called_set.mro
  have f1 := PySem.F.called_set.made
  have f2 := PySem.F.called_set.sub
  have f3 := PySem.F.called_set.notType
  have f4 := PySem.F.called_set.canCreate
  have f5 := PySem.F.typeCall_set_1 (.ref l)
  refine wpAny_call (codeAny_of_tree (show wpAny _ _ (callAny (.type "set") _) _ _ _ from wpAny_pure ⟨Code.quiet_builtin _ (by decide +kernel), codeAny_builtin PySem.F.entry_type_call ?_⟩))
  rw [Around.under_plain (weight_type_call_type "set" [.ref l] []) rfl]
  repeat (any_goals (first | assumption | wp_step))
  refine codeAny_mono (code_set_new_1 (.ref l) (E := E) (Q₁ := fun obj s₁ => ∃ led : Bool, obj = .ref s.heap.objs.size ∧ s₁ = { s with heap := s.heap.push { cls := .type "set", dict := none, data := .set #[] 0 (.fresh 0 0 led) } }) fun led => ⟨led, rfl, rfl⟩) fun r s₁ hr => ?_
  match r, hr with
  | .error e, hr => exact hr
  | .ok (.ret obj), hr =>
    obtain ⟨led, e1, e2⟩ := hr
    subst e1 e2
    have hS : (s.heap.push { cls := .type "set", dict := none, data := .set #[] 0 (.fresh 0 0 led) }).get? s.heap.objs.size = some { cls := .type "set", dict := none, data := .set #[] 0 (.fresh 0 0 led) } := Heap.get?_push_size _ rfl
    have hT : Shared.TypeIs { s with heap := s.heap.push { cls := .type "set", dict := none, data := .set #[] 0 (.fresh 0 0 led) } } (.ref s.heap.objs.size) "set" := ⟨_, hS, rfl⟩
    have g1 := PySem.F.called_set.init.lookup
    have g2 := PySem.F.called_set.init.bind (.ref s.heap.objs.size)
    repeat (any_goals (first | assumption | wp_step))
    refine codeAny_mono (codeAny_call_builtin (R := wants (fun r s₂ => r = .none ∧ SetD prog w xs s s₂) E) PySem.F.called_set.init.plain PySem.F.entry_set_init (check_set_init_1 hT (set_body (led := led) (by simp [hh]) hl hi room fun s' q => ⟨rfl, q⟩))) fun r₂ s₂ hr₂ => ?_
    match r₂, hr₂ with
    | .error e, hr₂ => exact hr₂
    | .ok (.ret r), hr₂ =>
      obtain ⟨e, q⟩ := hr₂
      subst e
      repeat (any_goals (first | assumption | wp_step))
      exact h _ q
    | .ok .next, hr₂ => exact hr₂.elim
    | .ok .brk, hr₂ => exact hr₂.elim
    | .ok .cont, hr₂ => exact hr₂.elim
  | .ok .next, hr => exact hr.elim
  | .ok .brk, hr => exact hr.elim
  | .ok .cont, hr => exact hr.elim
end
@[simp ↓] def dLenSet (t : TD) : TD := fun ρ k x => t ρ (fun r ρ1 => val ρ1 r fun d => ∃ ss : List Str, d = .lst (ss.map D.str) ∧ ss.length ≤ 4000 ∧ k (.d (.int ((ded ss).length : Nat))) ρ1) x
theorem de_lenset {X : Cx} {E : XK} {a : Expr} {t : TD} {p p2 q pos : Pos} (hm : X.mg "len" = none) (hm2 : X.mg "set" = none) (ha : DE X E a t) (hc : X.calm = true := by rfl) (hg : Gl X "len" := by rfl) (hg2 : Gl X "set" := by rfl)
    (na : starEach [a] X.env = (false, eval a X.env) :: starEach [] X.env := by rfl) : DE X E (.Call (.Name "len" p) [.Call (.Name "set" p2) [a] [] q] [] pos) (dLenSet t) := by
  refine ⟨fun pins s σ H Q I ⟨B, F, ρ, k, x, S, h, n, m⟩ => ?_⟩
  refine Call_ (ld_blt I hg hm bt_len (PyProof.Rows.callWith_builtin1 (PyProof.Rows.args_cons (Call_ (ld_blt I hg2 hm2 bt_set ?_)) rfl) rfl rfl))
  refine PyProof.Rows.callWith_type1 (PyProof.Rows.args_cons (thn (ha.run pins s σ H (fun v H1 => ∃ (l : Addr) (ss : List Str), v = .ref l ∧ SqL X.K H1 l (ss.map V.str) ∧ ss.length ≤ 4000 ∧ Q (.int ((ded ss).length : Nat)) H1) I ?_) fun v s1 hh => PyProof.Rows.args_nil ?_) na) na rfl
  · refine ⟨B, F, ρ, _, x, S, h, fun r ρ1 F1 v H1 q1 e1 S1 r1 => ?_, m⟩
    obtain ⟨d, ⟨ss, rfl, hl, q2⟩, r2⟩ := Rv.val S1 r1 q1
    obtain ⟨p, vs, rfl, hp, rl⟩ := r2.lst S1.fh
    obtain ⟨rfl, _⟩ := rl.strs
    exact ⟨p, ss, rfl, SqL.of hp, hl, n _ _ _ _ _ q2 e1 S1 (.int _)⟩
  · obtain ⟨x, H1, I1, r1, l, ss, rfl, hq, hl, q1⟩ := hh
    cases r1
    obtain ⟨its, rv, pl, hz⟩ := I1.list hq
    have hle := ded_le _ ss rfl
    refine call_setD (I1.ok.hd hc) pl.isList (by simpa using strsAre_of rv) (by unfold scanBound; omega) fun s' q => PyProof.Rows.args_nil ?_
    obtain ⟨h', tk, rfl, ⟨o, es, ep, t, ho, hex, hd, _, _, _, hf, hn⟩, hk⟩ := q
    have I2 : Inv X pins σ H1 { s1 with heap := h', toks := tk } := I1.kept fun b o e => hk b o (Heap.lt_size e) e
    exact call_len_set ho hex hd hf (by rw [hn] <;> omega) ⟨.int (ded ss).length, H1, I2.tok _, ⟨_, by rw [hn]⟩, q1⟩
end DL
namespace DL
open PySem PySem.Spec PyProof.Rows L2
def kD : Key → D
  | .inl i => .int i
  | .inr x => .str x
def putD (kvs : List (Key × D)) (k : Key) (v : D) : List (Key × D) := if (kvs.any fun kv => decide (kv.1 = k)) = true then kvs.map (fun kv => if kv.1 = k then (kv.1, v) else kv) else kvs ++ [(k, v)]
def Pkv (K : PySem.W.Frag) (rs : Rs) (F : Hp) (kvs : List (Key × V)) (ds : List (Key × D)) : Prop := kvs.map (·.1) = ds.map (·.1) ∧ RpL K rs F (kvs.map (·.2)) (ds.map (·.2))
theorem Pkv.mono {K : PySem.W.Frag} {rs : Rs} {F F' : Hp} {kvs : List (Key × V)} {ds : List (Key × D)} (h : Pkv K rs F kvs ds) (e : Ex F F') : Pkv K rs F' kvs ds := ⟨h.1, h.2.mono e⟩
theorem Pkv.length {K : PySem.W.Frag} {rs : Rs} {F : Hp} {kvs : List (Key × V)} {ds : List (Key × D)} (h : Pkv K rs F kvs ds) : kvs.length = ds.length := by
  have := congrArg List.length h.1
  simpa using this
theorem Pkv.put {K : PySem.W.Frag} {rs : Rs} {F : Hp} {k : Key} {v : V} {d : D} (r : Rp K rs F v d) : ∀ {kvs : List (Key × V)} {ds : List (Key × D)}, Pkv K rs F kvs ds → Pkv K rs F (putK kvs k v) (putD ds k d) := by
  intro kvs ds h
  have ea : (kvs.any fun kv => decide (kv.1 = k)) = ds.any fun kv => decide (kv.1 = k) := by
    have e1 : (kvs.any fun kv => decide (kv.1 = k)) = (kvs.map (·.1)).any fun x => decide (x = k) := by simp [List.any_map, Function.comp_def]
    have e2 : (ds.any fun kv => decide (kv.1 = k)) = (ds.map (·.1)).any fun x => decide (x = k) := by simp [List.any_map, Function.comp_def]
    rw [e1, e2, h.1]
  unfold putK putD
  rw [ea]
  by_cases c : (ds.any fun kv => decide (kv.1 = k)) = true
  · rw [if_pos c, if_pos c]
    clear ea c
    obtain ⟨h1, h2⟩ := h
    induction kvs generalizing ds with
    | nil =>
      cases ds with
      | nil => exact ⟨rfl, .nil⟩
      | cons _ _ => simp at h1
    | cons a kvs ih =>
      cases ds with
      | nil => simp at h1
      | cons b ds =>
        simp only [List.map_cons, List.cons.injEq] at h1
        cases h2 with
        | cons r1 r2 =>
          obtain ⟨i1, i2⟩ := ih h1.2 r2
          by_cases z : a.1 = k
          · have z2 : b.1 = k := h1.1 ▸ z
            refine ⟨?_, ?_⟩
            · simp only [List.map_cons, z, z2, if_true, i1]
            · simp only [List.map_cons, z, z2, if_true]
              exact .cons r i2
          · have z2 : ¬ b.1 = k := h1.1 ▸ z
            refine ⟨?_, ?_⟩
            · simp only [List.map_cons, z, z2, if_false, i1, h1.1]
            · simp only [List.map_cons, z, z2, if_false]
              exact .cons r1 i2
  · rw [if_neg c, if_neg c]
    refine ⟨by simp [h.1], ?_⟩
    rw [List.map_append, List.map_append]
    exact h.2.append (.cons r .nil)
theorem NL.dK {u : Option HO} {kvs : List (Key × V)} (h : u = some (.dK kvs)) : NL u := ⟨_, h, ⟨fun _ z => (by cases z), fun _ z => (by cases z)⟩⟩
def dDcL (g : TDg) (tt : TDt) (tk tv : TD) (vs : List Nat) (k : List (Key × D) → List Sl → Prop) : List D → List (Key × D) → List Sl → Prop
  | [], xs, ρ => k xs ρ
  | d :: ds, xs, ρ => g d ρ fun ρ1 => tt ρ1 (fun b ρ2 => if b = true then tk ρ2 (fun r ρ3 => ∃ key, r = .d (kD key) ∧ tv ρ3 (fun r2 ρ4 => frz ρ4 r2 fun y ρ5 => xs.length < 16777216 ∧ dDcL g tt tk tv vs k ds (putD xs key y) (wipeS ρ5 vs)) (fun _ _ => False)) (fun _ _ => False)
      else dDcL g tt tk tv vs k ds xs (wipeS ρ2 vs)) (fun _ _ => False)
def DcR (g : TDg) (tt : TDt) (tk tv : TD) (vs : List Nat) (k : Kn) (_ : Tok k) (ds : List D) (ρ : List Sl) : Prop := dDcL g tt tk tv vs (fun xs ρ2 => k (.d (.dct xs)) ρ2) ds [] ρ
@[simp ↓] def dDc (ti : TDi) (g : TDg) (tt : TDt) (tk tv : TD) (vs : List Nat) : TD := fun ρ k x => ti ρ (fun ds ρ1 => DcR g tt tk tv vs k ⟨⟩ ds (wipeS ρ1 vs)) x
theorem Rp.key {K : PySem.W.Frag} {rs : Rs} {F : Hp} {v : V} {key : Key} (h : Rp K rs F v (kD key)) : v = kV key := by
  cases key with
  | inl i => cases (show Rp K rs F v (.int i) from h); rfl
  | inr x => cases (show Rp K rs F v (.str x) from h); rfl
section
variable {X : Cx} {E : XK} {kx vx tg iter : Expr} {ifs : List Expr} {scope : Scope} {own : List (Str × Nat)} {pos : Pos} {ti : TDi} {g : TDg} {tt : TDt} {tk tv : TD}
theorem de_dc (hc : X.calm = true) (hN : X.N.Nodup) (hi : DI X E tg iter ti) (ok : BlkOk X.N X.env.scope scope own)
    (hg : ∀ (s : Shared) (H : Hp) (C : Addr) (cl : List (Str × Addr)) (fp : List Addr), DG (X.blk s H scope (compEnvC scope cl C X.env) fp) tg (own.map (·.2)) g) (ht : ∀ (s : Shared) (H : Hp) (C : Addr) (cl : List (Str × Addr)) (fp : List Addr), DTs (X.blk s H scope (compEnvC scope cl C X.env) fp) E0 ifs tt)
    (hk : ∀ (s : Shared) (H : Hp) (C : Addr) (cl : List (Str × Addr)) (fp : List Addr), DE (X.blk s H scope (compEnvC scope cl C X.env) fp) E0 kx tk)
    (he : ∀ (s : Shared) (H : Hp) (C : Addr) (cl : List (Str × Addr)) (fp : List Addr), DE (X.blk s H scope (compEnvC scope cl C X.env) fp) E0 vx tv) (hs : ∀ x, foldedSetIterable iter X.env x = pure x := by intro _; rfl) :
    DE X E (.DictComp kx vx [⟨tg, iter, ifs, 0⟩] scope pos) (dDc ti g tt tk tv (own.map (·.2))) :=
  de_of (pe_dc (g := emG X.K (own.map fun (p : Str × Nat) => p.2) g) (tt := emT X.K E0 tt) (tk := emE X.K E0 tk) (tv := emE X.K E0 tv) hc hN hi ok hg ht hk he hs) fun B F ρ σ H k x Q S q n m => by
    refine ⟨B, F, ρ, _, x, S, q, fun ds ρ1 F1 J H1 q1 e1 S1 it => fun Dl hD => ?_, m⟩
    have nD : ∀ x ∈ B.hl, x.1 ≠ Dl := fun x hx => ne_of_none (S1.hd x hx).1 hD
    refine ⟨fun i m H => m = ds.length - i ∧ i ≤ ds.length ∧ ∃ F' ρ' acc xs, Ex F1 F' ∧ Sat X.K { B with hl := (Dl, .dK acc) :: B.hl } F' (wipeS ρ' (own.map (·.2))) (L2.wipe σ (own.map (·.2))) H ∧ Pkv X.K B.rs F' acc xs ∧ dDcL g tt tk tv (own.map (·.2)) (fun xs ρ2 => k (.d (.dct xs)) ρ2) (ds.drop i) xs (wipeS ρ' (own.map (·.2))),
      ⟨_, rfl, Nat.zero_le _, F1, ρ1, [], [], Ex.rf _, (S1.wipe _).hold hD, ⟨rfl, .nil⟩, (show dDcL g tt tk tv (own.map (·.2)) (fun xs ρ2 => k (.d (.dct xs)) ρ2) ds [] (wipeS ρ1 (own.map (·.2))) from q1)⟩, ?_⟩
    rintro i m' H ⟨rfl, hle, F', ρ', acc, xs, e2, S2, ra, q2⟩
    cases hd : ds[i]? with
    | none =>
      have hl : i = ds.length := Nat.le_antisymm hle (List.getElem?_eq_none_iff.mp hd)
      subst hl
      rw [List.drop_length] at q2
      obtain ⟨h1, h2, h3, h4⟩ := S2.held (p := Dl) (o := .dK acc) List.mem_cons_self
      have S3 : Sat X.K B F' (wipeS ρ' (own.map (·.2))) (L2.wipe σ (own.map (·.2))) H := S2.less (hs := B.hl) fun x hx => List.mem_cons_of_mem _ hx
      refine .inl ⟨(it F' H e2 S2.fh).1, ?_⟩
      have e3 : Ex F' (upd F' Dl (.dK acc)) := Ex.up h2
      exact n _ _ _ _ _ q2 ((e1.tr e2).tr e3) (S3.unwipe.know h1 h3 h2 nD h4.unwipe) (Rp.dct upd_same ra.1 (ra.2.mono e3))
    | some d =>
      have hlt : i < ds.length := (List.getElem?_eq_some_iff.mp hd).1
      rw [drop_cons hd] at q2
      obtain ⟨h1, h2⟩ := ItD.step (B := { B with hl := (Dl, .dK acc) :: B.hl }) it e2 S2 hd
      refine .inr ⟨h1, fun H3 => ∃ F3 ρ3 acc3 xs3, Ex F' F3 ∧ Sat X.K { B with hl := (Dl, .dK acc3) :: B.hl } F3 (wipeS ρ3 (own.map (·.2))) (L2.wipe σ (own.map (·.2))) H3 ∧ Pkv X.K B.rs F3 acc3 xs3 ∧ dDcL g tt tk tv (own.map (·.2)) (fun xs ρ2 => k (.d (.dct xs)) ρ2) (ds.drop (i + 1)) xs3 (wipeS ρ3 (own.map (·.2))),
        fun H3 ⟨F3, ρ3, acc3, xs3, e3, S3, r3, q3⟩ => ⟨ds.length - (i + 1), by omega, rfl, hlt, F3, ρ3, acc3, xs3, e2.tr e3, S3, r3, q3⟩, fun v H'' y => ?_⟩
      obtain ⟨F4, e4, S4, r4⟩ := h2 v H'' y
      refine ⟨_, F4, wipeS ρ' _, d, _, S4, r4, q2, fun ρ5 σ5 q5 S5 l5 z5 => ?_⟩
      have hw : L2.wipe σ5 (own.map (·.2)) = L2.wipe σ (own.map (·.2)) := by
        rw [wipe_eq l5 z5, wipe_wipe]
      refine ⟨hw, _, F4, ρ5, _, _, S5, q5, fun b ρ6 F6 H6 q6 e6 S6 => ?_, nX0⟩
      cases b with
      | true =>
        simp only [if_true] at q6 ⊢
        refine ⟨_, F6, ρ6, _, _, S6, q6, fun r ρ7 F7 w H7 ⟨key, ek, q7⟩ e7 S7 r7 => ?_, nX0⟩
        subst ek
        refine ⟨_, F7, ρ7, _, _, S7, q7, fun r2 ρ8 F8 w2 H8 q8 e8 S8 r8 => ?_, nX0⟩
        obtain ⟨yd, ρ9, F9, ⟨hl9, q9⟩, e9, S9, r9⟩ := Rv.frz S8 r8 q8
        refine ⟨acc, key, Rp.key r7, (S9.hd (Dl, .dK acc) List.mem_cons_self).1, by rw [ra.length, sizeLine_eq]; exact hl9, ?_⟩
        have en : Ex F' F9 := (((e4.tr e6).tr e7).tr e8).tr e9
        have S10 := (S9.wipe (own.map (·.2))).heldW (o' := .dK (putK acc key w2)) rfl nD (NL.dK rfl) (by intro _ z; cases z)
        rw [hw] at S10
        exact ⟨F9, ρ9, putK acc key w2, putD xs key yd, en, S10, (ra.mono en).put r9, q9⟩
      | false =>
        simp only [Bool.false_eq_true, if_false] at q6 ⊢
        have S9 := S6.wipe (own.map (·.2))
        rw [hw] at S9
        exact ⟨F6, ρ6, acc, xs, e4.tr e6, S9, ra.mono (e4.tr e6), q6⟩
end
@[simp ↓] def fLenD (d : D) (k : D → Prop) : Prop := match d with
  | .dct kvs => k (.int (kvs.length : Nat))
  | _ => False
theorem cd_lenD {K : PySem.W.Frag} : CallD K (fun xs H Q => ∃ a kvs, xs = [V.ref a] ∧ H a = some (.dK kvs) ∧ Q (.int kvs.length) H) (d1 fLenD) := calld_1 fun B F ρ σ H v d k Q S rv q n => by
  unfold fLenD at q
  split at q
  · rename_i ds
    cases rv.notL (fun _ z => nomatch z) with
    | dct h1 h2 h3 =>
      have hl := congrArg List.length h2
      simp only [List.length_map] at hl
      refine ⟨_, _, rfl, S.fh _ _ h1, ?_⟩
      rw [hl]
      exact n _ _ _ _ q (Ex.rf _) S (.int _)
  · exact q.elim
@[simp ↓] def dDict0 : TD := fun ρ k _ => k (.d (.dct [])) ρ
theorem de_dict0 {X : Cx} {E : XK} {pos : Pos} : DE X E (.Dict [] [] pos) dDict0 :=
  de_of pe_dnewK fun B F ρ σ H k x Q S q n m => fun p hp => n _ _ _ _ _ q (Ex.up (S.toGr.fresh hp).1) (S.laidF hp) (Rp.dct upd_same rfl .nil)
def rReprS : List V → Hp → VK → Prop := fun xs H Q => ∃ z, xs = [.str z] ∧ (reprText z).length ≤ sizeLine ∧ Q (.str (reprText z)) H
theorem cr_reprS {X : Cx} : CallR X (.builtin "repr") rReprS := by
  intro pins s σ H xs us Q I r h
  obtain ⟨z, rfl, hl, q⟩ := h
  obtain ⟨u, rfl, ru⟩ := vals1 r
  obtain ⟨t, rfl⟩ := ru
  exact P.repr_of_str (hsz := hl) ⟨.str (reprText z), H, I.tok _, ⟨_, rfl⟩, q⟩
@[simp ↓] def fRepr (d : D) (k : D → Prop) : Prop := match d with
  | .str z => (reprText z).length ≤ 16777216 ∧ SOk (reprText z) ∧ k (.str (reprText z))
  | _ => False
theorem cd_repr {K : PySem.W.Frag} : CallD K rReprS (d1 fRepr) := calld_1 fun B F ρ σ H v d k Q S rv q n => by
  unfold fRepr at q
  split at q
  · obtain ⟨rfl, _⟩ := rv.str
    exact ⟨_, rfl, by rw [sizeLine_eq]; exact q.1, n _ _ _ _ q.2.2 (Ex.rf _) S (.str _ q.2.1)⟩
  · exact q.elim
end DL
namespace DL
open PySem PySem.Spec PyProof.Rows L2
@[simp ↓] theorem ex_keyS {s : Str} {P : Key → Prop} : (∃ key, Rx.d (D.str s) = Rx.d (kD key) ∧ P key) = P (.inr s) := propext ⟨fun ⟨b, e, h⟩ => by
  cases b with
  | inl i => simp [kD] at e
  | inr x =>
    simp [kD] at e
    rw [e]
    exact h, fun h => ⟨.inr s, rfl, h⟩⟩
@[simp] theorem ex_keyS2 {s : Str} {P : Key → Prop} : (∃ key, D.str s = kD key ∧ P key) = P (.inr s) := propext ⟨fun ⟨b, e, h⟩ => by
  cases b with
  | inl i => simp [kD] at e
  | inr x =>
    simp [kD] at e
    rw [e]
    exact h, fun h => ⟨.inr s, rfl, h⟩⟩
def stepDc (g : TDg) (tt : TDt) (tk tv : TD) (vs : List Nat) (d : D) (K : Key → D → List Sl → Prop) (ρ : List Sl) : Prop :=
  g d ρ fun ρ1 => tt ρ1 (fun b ρ2 => if b = true then tk ρ2 (fun r ρ3 => ∃ key, r = .d (kD key) ∧ tv ρ3 (fun r2 ρ4 => frz ρ4 r2 fun y ρ5 => K key y (wipeS ρ5 vs)) (fun _ _ => False)) (fun _ _ => False) else False) (fun _ _ => False)
theorem putD_keys {acc : List (Key × D)} {xs : List Str} {x : Str} {v : D} (h : acc.map (·.1) = (ded xs).map Sum.inr) : (putD acc (.inr x) v).map (·.1) = (ded (xs ++ [x])).map Sum.inr := by
  have ea : (acc.any fun kv => decide (kv.1 = .inr x)) = (ded xs).contains x := by
    have e1 : (acc.any fun kv => decide (kv.1 = Sum.inr x)) = (acc.map (·.1)).any fun y => decide (y = Sum.inr x) := by simp [List.any_map, Function.comp_def]
    rw [e1, h, List.any_map]
    induction ded xs with
    | nil => rfl
    | cons a l ih =>
      simp only [List.any_cons, List.contains_cons, ih, Function.comp]
      congr 1
      by_cases z : x = a
      · subst z; simp
      · simp [z, Ne.symm z, fun q : a = x => z q.symm]
  rw [ded_snoc]
  unfold putD
  rw [ea]
  by_cases c : (ded xs).contains x = true
  · rw [if_pos c, if_pos c, ← h, List.map_map]
    apply List.map_congr_left
    intro a _
    simp only [Function.comp]
    split <;> rfl
  · rw [if_neg c, if_neg c]
    simp [h]
theorem dc_len0 {α : Type} {g : TDg} {tt : TDt} {tk tv : TD} {vs : List Nat} {k : List (Key × D) → List Sl → Prop} {ρ : List Sl} (g0 : α → D) (key : α → Str) : ∀ {l : List α} {acc : List (Key × D)} {pre : List Str},
    (∀ a ∈ l, ∀ K : Key → D → List Sl → Prop, K (.inr (key a)) (.bl true) ρ → ∀ N : List Sl → Prop, g (g0 a) ρ fun ρ1 => tt ρ1 (fun b ρ2 => if b = true then tk ρ2 (fun r ρ3 => ∃ key, r = .d (kD key) ∧ tv ρ3 (fun r2 ρ4 => frz ρ4 r2 fun y ρ5 => K key y (wipeS ρ5 vs)) (fun _ _ => False)) (fun _ _ => False) else N (wipeS ρ2 vs)) (fun _ _ => False)) →
    acc.map (·.1) = (ded pre).map Sum.inr → acc.length + l.length ≤ 16777216 → (∀ kvs, kvs.length = (ded (pre ++ l.map key)).length → k kvs ρ) → dDcL g tt tk tv vs k (l.map g0) acc ρ
  | [], acc, pre, _, ha, _, q => by
    have e := congrArg List.length ha
    simp only [List.length_map] at e
    exact q acc (by simpa using e)
  | a :: l, acc, pre, h, ha, hl, q => by
    have hp : (putD acc (.inr (key a)) (.bl true)).length ≤ acc.length + 1 := by unfold putD; split <;> simp
    simp only [List.length_cons] at hl
    refine h a List.mem_cons_self (fun kk y ρ' => acc.length < 16777216 ∧ dDcL g tt tk tv vs k (l.map g0) (putD acc kk y) ρ') ?_ (fun ρ' => dDcL g tt tk tv vs k (l.map g0) acc ρ')
    exact ⟨by omega, dc_len0 g0 key (pre := pre ++ [key a]) (fun b hb => h b (List.mem_cons_of_mem _ hb)) (putD_keys ha) (by omega) fun kvs e => q kvs (by rw [e]; simp)⟩
theorem dc_len {α : Type} {g : TDg} {tt : TDt} {tk tv : TD} {vs : List Nat} {k : Kn} {tok : Tok k} {ρ : List Sl} (g0 : α → D) (key : α → Str) {l : List α}
    (h : ∀ a ∈ l, ∀ K : Key → D → List Sl → Prop, K (.inr (key a)) (.bl true) ρ → ∀ N : List Sl → Prop, g (g0 a) ρ fun ρ1 => tt ρ1 (fun b ρ2 => if b = true then tk ρ2 (fun r ρ3 => ∃ key, r = .d (kD key) ∧ tv ρ3 (fun r2 ρ4 => frz ρ4 r2 fun y ρ5 => K key y (wipeS ρ5 vs)) (fun _ _ => False)) (fun _ _ => False) else N (wipeS ρ2 vs)) (fun _ _ => False))
    (hl : l.length ≤ 16777216) (q : ∀ kvs : List (Key × D), kvs.length = (ded (l.map key)).length → k (.d (.dct kvs)) ρ) : DcR g tt tk tv vs k tok (l.map g0) ρ :=
  dc_len0 (acc := []) (pre := []) g0 key h rfl (by simpa using hl) (by simpa using q)
end DL
namespace DL
open PySem PySem.Spec PyProof.Rows L2
@[simp ↓] def dNewC (t : TDa) : TD := fun ρ k x => t ρ (fun rs ρ1 => frzs ρ1 rs fun ds ρ2 => ds.length ≤ 16777216 ∧ ∀ p, k (.d (.raw (.ref p))) (ρ2 ++ [.c p (.lst ds)])) x
@[simp ↓] def dAppC (te ta : TD) : TD := fun ρ k x => te ρ (fun r ρ1 => ∃ p : Addr, r = Rx.d (.raw (.ref p)) ∧ (∃ (i : Nat) (xs : List D), ρ1[i]? = some (Sl.c p (.lst xs))) ∧ ta ρ1 (fun r2 ρ2 => frz ρ2 r2 fun d ρ3 => ∃ (i : Nat) (xs : List D), ρ3[i]? = some (Sl.c p (.lst xs)) ∧ xs.length < 16777216 ∧ k (.d .non) (ρ3.set i (.c p (.lst (xs ++ [d]))))) x) x
@[simp ↓] def dTupC (te : TD) : TD := fun ρ k x => te ρ (fun r ρ1 => ∃ (p : Addr) (i : Nat) (xs : List D), r = Rx.d (.raw (.ref p)) ∧ ρ1[i]? = some (Sl.c p (.lst xs)) ∧ k (.d (.tup xs)) ρ1) x
section
variable {X : Cx} {E : XK} {e o : Expr} {es : List Expr} {pos apos p : Pos} {t : TDa} {to te : TD}
theorem Sat.cellL {K : PySem.W.Frag} {B : Bs} {F H : Hp} {ρ : List Sl} {σ : L2.St} {i : Nat} {p : Addr} {xs : List D} (S : Sat K B F ρ σ H) (h : ρ[i]? = some (Sl.c p (.lst xs))) : ∃ vs, H p = some (.lst vs) ∧ RpL K B.rs F vs xs := by
  obtain ⟨o, h1, h2, _⟩ := S.cell h
  cases o with
  | lst vs => exact ⟨vs, h1, h2⟩
  | _ => exact h2.elim
theorem de_newC (h : DA X E es t) : DE X E (.List es pos) (dNewC t) :=
  de_of (pe_lst h) fun B F ρ σ H k x Q S q n m => ⟨B, F, ρ, _, x, S, q, fun rs ρ1 F1 vs H1 q1 e1 S1 r1 => by
    obtain ⟨ds, ρ2, F2, ⟨hl, q2⟩, e2, S2, r2⟩ := frzs_ok S1 r1 q1
    refine ⟨by rw [r2.length, sizeLine_eq]; exact hl, fun p hp => ?_⟩
    obtain ⟨h1, h2, h3, h4⟩ := S2.newO (o := .lst vs) hp
    exact n _ _ _ _ _ (q2 p) (e1.tr e2) ((S2.laidO (o := .lst vs) hp).newC (b := .lst ds) upd_same r2 h1 h2 h3 h4) (Rp.raw _), m⟩
theorem de_appC {ta : TD} (ho : DE X E o te) (he : DE X E e ta) (hbase : attributeBase o "append" X.env (eval o X.env) = eval o X.env := by rfl)
    (hfew : ((backTo pos (starEach (e :: []) X.env)).all (fun x => !x.1) && (backToKw pos (keywordEach [] X.env)).all (fun x => x.1.isSome)
      && decide ((e :: ([] : List Expr)).length + ([] : List Keyword).length + (if ([] : List Keyword).isEmpty then 0 else 1) < 30)) = true := by rfl)
    (hline : (apos.endLine == pos.line) = true := by rfl) (hs : starEach (e :: []) X.env = (false, eval e X.env) :: starEach [] X.env := by rfl) (hplain : (backTo pos (starEach [] X.env)).any (·.1) = false := by rfl) :
    DE X E (.Call (.Attribute o "append" apos) [e] [] pos) (dAppC te ta) :=
  de_of (pe_bm PySem.F.plainAttrs_list PySem.F.slot_list_append PySem.F.type_list_append mt_append ho (pa_cons he pa_nil hs) hbase hfew hline hs hplain) fun B F ρ σ H k x Q S q n m => by
    refine ⟨B, F, ρ, _, x, S, q, fun r ρ1 F1 v H1 q1 e1 S1 r1 => ?_, m⟩
    obtain ⟨p, rfl, ⟨i0, xs0, hi0⟩, q1⟩ := q1
    cases (show Rp X.K B.rs F1 v (.raw (.ref p)) from r1)
    obtain ⟨vs0, hH0, _⟩ := S1.cellL hi0
    refine ⟨.inl ⟨rfl, vs0, SqL.of hH0⟩, B, F1, ρ1, _, x, S1, q1, fun r2 ρ2 F2 v2 H2 q2 e2 S2 rv2 => ?_, m.mono e1⟩
    obtain ⟨d, ρ3, F3, ⟨i, xs, hi, hl, q3⟩, e3, S3, r3⟩ := Rv.frz S2 rv2 q2
    obtain ⟨vs, hH, rl⟩ := S3.cellL hi
    refine ⟨p, vs, v2, rfl, rfl, hH, by rw [rl.length, sizeLine_eq]; exact hl, ?_⟩
    exact n _ _ _ _ _ q3 ((e1.tr e2).tr e3) (S3.writeC i (o := .lst (vs ++ [v2])) (b := .lst (xs ++ [d])) hi (show RpL X.K B.rs F3 _ _ from rl.append (.cons r3 .nil))) Rp.non
theorem de_tupC (hg : Gl X "tuple") (hm : X.mg "tuple" = none) (h : DE X E e te)
    (he : starEach (e :: []) X.env = (false, eval e X.env) :: starEach [] X.env := by rfl) (hpl : (backTo pos (starEach [] X.env)).any (·.1) = false := by rfl) : DE X E (.Call (.Name "tuple" p) [e] [] pos) (dTupC te) :=
  de_of (pe_callTy call_tuple_of hg hm bt_tuple (pa_cons h pa_nil he) (by decide) (by decide) he hpl) fun B F ρ σ H k x Q S q n m => ⟨B, F, ρ, _, x, S, q, fun r ρ1 F1 v H1 q1 e1 S1 r1 => by
    obtain ⟨p, i, xs, rfl, hi, q2⟩ := q1
    cases (show Rp X.K B.rs F1 v (.raw (.ref p)) from r1)
    obtain ⟨vs, hH, rl⟩ := S1.cellL hi
    refine ⟨p, vs, rfl, .inl ⟨SqL.of hH, fun o ho => ?_⟩⟩
    have e3 : Ex F1 (upd F1 o (.tup vs)) := Ex.up (S1.toGr.fresh ho).1
    exact n _ _ _ _ _ q2 (e1.tr e3) (S1.laidF ho) (Rp.tup (SqT.of upd_same) (rl.mono e3)), m⟩
end
mutual
inductive PyR (ρ : List Sl) : D → PyData → Prop
  | pure {d : D} : d.pure = true → PyR ρ d d.py
  | tup {ds : List D} {es : List PyData} : PyRL ρ ds es → PyR ρ (.tup ds) (.tuple es)
  | lst {ds : List D} {es : List PyData} : PyRL ρ ds es → PyR ρ (.lst ds) (.list es)
  | cell {i : Nat} {p : Addr} {xs : List D} {es : List PyData} : ρ[i]? = some (Sl.c p (.lst xs)) → PyRL ρ xs es → PyR ρ (.raw (.ref p)) (.list es)
inductive PyRL (ρ : List Sl) : List D → List PyData → Prop
  | nil : PyRL ρ [] []
  | cons {d : D} {e : PyData} {ds : List D} {es : List PyData} : PyR ρ d e → PyRL ρ ds es → PyRL ρ (d :: ds) (e :: es)
end
section
variable {K : PySem.W.Frag} {B : Bs} {F H : Hp} {ρ : List Sl} {σ : L2.St}
mutual
theorem PyR.dp (S : Sat K B F ρ σ H) : ∀ {d : D} {e : PyData} {v : V}, PyR ρ d e → Rp K B.rs F v d → Dp K H v e ∧ e.canLay0 = true
  | _, _, _, .pure h, r => Rp.dp S.fh r h
  | _, _, _, .tup h, r => by
    cases r with
    | tup hq rl =>
      obtain ⟨h1, h2⟩ := PyRL.dp S h rl
      exact ⟨.tup (exT S.fh hq) h1, by simpa [PyData.canLay0] using h2⟩
  | _, _, _, .lst h, r => by
    cases r with
    | lst hq rl =>
      obtain ⟨h1, h2⟩ := PyRL.dp S h rl
      exact ⟨.lst (SqL.of (S.fh _ _ hq)) h1, by simpa [PyData.canLay0] using h2⟩
  | _, _, _, .cell hi h, r => by
    cases r
    obtain ⟨vs, hH, rl⟩ := S.cellL hi
    obtain ⟨h1, h2⟩ := PyRL.dp S h rl
    exact ⟨.lst (SqL.of hH) h1, by simpa [PyData.canLay0] using h2⟩
theorem PyRL.dp (S : Sat K B F ρ σ H) : ∀ {ds : List D} {es : List PyData} {vs : List V}, PyRL ρ ds es → RpL K B.rs F vs ds → DpAll K H vs es ∧ PyData.canLayAll0 es = true
  | _, _, _, .nil, r => by
    cases r
    exact ⟨.nil, rfl⟩
  | _, _, _, .cons h t, r => by
    cases r with
    | cons r1 r2 =>
      obtain ⟨h1, h2⟩ := PyR.dp S h r1
      obtain ⟨h3, h4⟩ := PyRL.dp S t r2
      exact ⟨.cons h1 h3, by simp [PyData.canLayAll0, h2, h4]⟩
end
end
@[simp ↓] def dEqNil (te : TD) : TD := fun ρ k x => te ρ (fun r ρ1 => val ρ1 r fun d => ∃ (xs : List D) (es : List PyData), d = D.lst xs ∧ PyRL ρ1 xs es ∧ k (.d (.bl xs.isEmpty)) ρ1) x
theorem PyRL.isEmpty {ρ : List Sl} {ds : List D} {es : List PyData} (h : PyRL ρ ds es) : ds.isEmpty = es.isEmpty := by cases h <;> rfl
section
variable {X : Cx} {E : XK} {e : Expr} {te : TD} {pos p2 : Pos}
theorem eqNil_eqv (es : List PyData) : PyData.eqv (.list es) (.list []) = es.isEmpty := by
  cases es with
  | nil => with_unfolding_all rfl
  | cons a l => first | rfl | with_unfolding_all rfl | simp [PyData.eqv]
theorem emEqNil {B : Bs} {F : Hp} {ρ : List Sl} {σ : L2.St} {H : Hp} {k : Kn} {x : Kx} {Q : VK} (S : Sat X.K B F ρ σ H) (q : dEqNil te ρ k x) (n : nV X.K B F σ k Q) (m : nX X.K E B F x) : tOp (rEqM X.K) (emE X.K E te) (emE X.K E (dLst dNil)) σ H Q := by
  refine ⟨B, F, ρ, _, x, S, q, fun ra ρ1 F1 v H1 q1 e1 S1 r1 => ?_, m⟩
  refine ⟨B, F1, ρ1, fun rb ρ2 => ρ2 = ρ1 ∧ rb = .d (.lst []), fun _ _ => False, S1, ⟨by simp, rfl, rfl⟩, fun rb ρ2 F2 w H2 q2 e2 S2 r2 => ?_, fun _ _ _ _ _ h => h.elim⟩
  obtain ⟨rfl, rfl⟩ := q2
  obtain ⟨a', ⟨xs, es, rfl, pr, q3⟩, r3⟩ := Rv.val S2 (r1.mono e2) q1
  obtain ⟨p, vs, rfl, hH, rl⟩ := r3.lst S2.fh
  obtain ⟨h1, h2⟩ := pr.dp S2 rl
  cases r2 with
  | lst h r =>
    cases r
    refine ⟨.list es, .list [], .lst (SqL.of hH) h1, .lst (SqL.of (S2.fh _ _ h)) .nil, by simpa [PyData.canLay0] using h2, by simp [PyData.canLay0, PyData.canLayAll0], .inr (by decide +kernel), ?_⟩
    rw [eqNil_eqv, ← pr.isEmpty]
    exact n _ _ _ _ _ q3 (e1.tr e2) S2 (.bl _)
theorem de_eqNil (hu : X.A.units + 64 < cLine) (ha : DE X E e te) : DE X E (.Compare e [.Eq] [.List [] p2] pos) (dEqNil te) :=
  de_of (pe_cmpR (op_eqM hu) ha (de_lst (E := E) da_nil) (nomark _)) fun B F ρ σ H k x Q S q n m => emEqNil S q n m
theorem dt_eqNil (hu : X.A.units + 64 < cLine) (ha : DE X E e te) : DT X E (.Compare e [.Eq] [.List [] p2] pos) (dTst (dEqNil te)) :=
  dt_of (pt_cmpR (op_eqM hu) ha (de_lst (E := E) da_nil) (nomark _)) fun B F ρ σ H k x Q S q n m => emEqNil S q (nTst n) m
end
def putD' (f : Str) (d : D) : List (Str × D) → List (Str × D)
  | [] => [(f, d)]
  | (g, x) :: r => if g = f then (g, d) :: r else (g, x) :: putD' f d r
theorem putR {K : PySem.W.Frag} {rs : Rs} {F : Hp} {f : Str} {v : V} {d : D} (r : Rp K rs F v d) : ∀ {vs : List (Str × V)} {fs : List (Str × D)}, vs.map (·.1) = fs.map (·.1) → RpL K rs F (vs.map (·.2)) (fs.map (·.2)) → (putF f v vs).map (·.1) = (putD' f d fs).map (·.1) ∧ RpL K rs F ((putF f v vs).map (·.2)) ((putD' f d fs).map (·.2))
  | [], [], _, _ => ⟨rfl, .cons r .nil⟩
  | [], _ :: _, h, _ => by cases h
  | _ :: _, [], h, _ => by cases h
  | (a, x) :: vs, (b, y) :: fs, h, q => by
    simp only [List.map_cons, List.cons.injEq] at h
    obtain ⟨h1, h2⟩ := h
    subst h1
    cases q with
    | cons q1 q2 =>
      obtain ⟨i1, i2⟩ := putR r h2 q2
      rw [show putF f v ((a, x) :: vs) = (if a = f then (a, v) :: vs else (a, x) :: putF f v vs) from rfl, show putD' f d ((a, y) :: fs) = (if a = f then (a, d) :: fs else (a, y) :: putD' f d fs) from rfl]
      by_cases z : a = f
      · rw [if_pos z, if_pos z]
        exact ⟨by simp [h2], .cons r q2⟩
      · rw [if_neg z, if_neg z]
        exact ⟨by simp [i1], .cons q1 i2⟩
theorem lookR {K : PySem.W.Frag} {rs : Rs} {F : Hp} {f : Str} {d : D} : ∀ {vs : List (Str × V)} {fs : List (Str × D)}, vs.map (·.1) = fs.map (·.1) → RpL K rs F (vs.map (·.2)) (fs.map (·.2)) → fs.lookup f = some d → ∃ v, vs.lookup f = some v ∧ Rp K rs F v d
  | [], [], _, _, h => by cases h
  | [], _ :: _, h, _, _ => by cases h
  | _ :: _, [], h, _, _ => by cases h
  | (a, x) :: vs, (b, y) :: fs, h, q, e => by
    simp only [List.map_cons, List.cons.injEq] at h
    obtain ⟨h1, h2⟩ := h
    subst h1
    cases q with
    | cons q1 q2 =>
      simp only [List.lookup] at e ⊢
      split at e
      · cases e
        exact ⟨x, rfl, q1⟩
      · exact lookR h2 q2 e
theorem lookN {K : PySem.W.Frag} {rs : Rs} {F : Hp} {f : Str} : ∀ {vs : List (Str × V)} {fs : List (Str × D)}, vs.map (·.1) = fs.map (·.1) → fs.lookup f = none → vs.lookup f = none
  | [], [], _, _ => rfl
  | [], _ :: _, h, _ => by cases h
  | _ :: _, [], h, _ => by cases h
  | (a, x) :: vs, (b, y) :: fs, h, e => by
    simp only [List.map_cons, List.cons.injEq] at h
    obtain ⟨h1, h2⟩ := h
    subst h1
    simp only [List.lookup] at e ⊢
    split at e
    · cases e
    · exact lookN (K := K) (rs := rs) (F := F) h2 e
@[simp ↓] def dFld (C : Addr) (f : Str) (te : TD) : TD := fun ρ k x => te ρ (fun r ρ1 => ∃ (fs : List (Str × D)) (d : D), r = Rx.d (.ins C fs) ∧ fs.lookup f = some d ∧ k (.d d) ρ1) x
@[simp ↓] def dFldC (C : Addr) (f : Str) (te : TD) : TD := fun ρ k x => te ρ (fun r ρ1 => ∃ (p : Addr) (i : Nat) (fs : List (Str × D)) (d : D), r = Rx.d (.raw (.ref p)) ∧ ρ1[i]? = some (Sl.c p (.ins C fs)) ∧ fs.lookup f = some d ∧ k (.d d) ρ1) x
@[simp ↓] def dSetF (C : Addr) (f : Str) (to te : TD) : TDs := fun kd ρ => te ρ (fun r ρ1 => frz ρ1 r fun d ρ2 => to ρ2 (fun r2 ρ3 => ∃ (p : Addr) (i : Nat) (fs : List (Str × D)), r2 = Rx.d (.raw (.ref p)) ∧ ρ3[i]? = some (Sl.c p (.ins C fs)) ∧ fs.length < 1000 ∧ kd.nx (ρ3.set i (.c p (.ins C (putD' f d fs))))) kd.x) kd.x
section
variable {X : Cx} {E : XK} {e o : Expr} {pos pos' : Pos} {C : Addr} {f : Str} {te to : TD}
theorem Sat.cellI {K : PySem.W.Frag} {B : Bs} {F H : Hp} {ρ : List Sl} {σ : L2.St} {i : Nat} {p C : Addr} {fs : List (Str × D)} (S : Sat K B F ρ σ H) (h : ρ[i]? = some (Sl.c p (.ins C fs))) : ∃ dx vs, H p = some (.ins C dx vs) ∧ vs.map (·.1) = fs.map (·.1) ∧ RpL K B.rs F (vs.map (·.2)) (fs.map (·.2)) := by
  obtain ⟨o, h1, h2, _⟩ := S.cell h
  cases o with
  | ins C' dx vs =>
    obtain ⟨rfl, h3, h4⟩ := h2
    exact ⟨dx, vs, h1, h3, h4⟩
  | _ => exact h2.elim
theorem de_fld (c : Cls X.K C) (na : NoAttr X.K C f) (he : DE X E e te) (hb : attributeBase e f X.env (eval e X.env) = eval e X.env := by rfl) : DE X E (.Attribute e f pos) (dFld C f te) :=
  de_of (pe_fld he hb) fun B F ρ σ H k x Q S q n m => ⟨B, F, ρ, _, x, S, q, fun r ρ1 F1 v H1 q1 e1 S1 r1 => by
    obtain ⟨fs, d, rfl, hl, q2⟩ := q1
    cases (show Rp X.K B.rs F1 v (.ins C fs) from r1) with
    | ins h1 h2 h3 =>
      obtain ⟨y, hy, ry⟩ := lookR h2 h3 hl
      exact ⟨_, C, _, _, y, rfl, S1.fh _ _ h1, c, na, hy, n _ _ _ _ _ q2 e1 S1 ry⟩, m⟩
theorem de_fldC (c : Cls X.K C) (na : NoAttr X.K C f) (he : DE X E e te) (hb : attributeBase e f X.env (eval e X.env) = eval e X.env := by rfl) : DE X E (.Attribute e f pos) (dFldC C f te) :=
  de_of (pe_fld he hb) fun B F ρ σ H k x Q S q n m => ⟨B, F, ρ, _, x, S, q, fun r ρ1 F1 v H1 q1 e1 S1 r1 => by
    obtain ⟨p, i, fs, d, rfl, hi, hl, q2⟩ := q1
    cases (show Rp X.K B.rs F1 v (.raw (.ref p)) from r1)
    obtain ⟨dx, vs, h1, h2, h3⟩ := S1.cellI hi
    obtain ⟨y, hy, ry⟩ := lookR h2 h3 hl
    exact ⟨p, C, dx, vs, y, rfl, h1, c, na, hy, n _ _ _ _ _ q2 e1 S1 ry⟩, m⟩
theorem ds_setF (c : Cls X.K C) (na : NoAttr X.K C f) (ho : DE X E o to) (he : DE X E e te) (hs : swapsWith e (some (.Attribute o f pos')) pos.line X.env = pure false := by rfl) : DS X E (.Assign [.Attribute o f pos'] e pos) (dSetF C f to te) :=
  ds_of (ps_fld ho he hs) fun B F ρ σ H kd D S q n m => ⟨B, F, ρ, _, kd.x, S, q, fun r ρ1 F1 v H1 q1 e1 S1 r1 => by
    obtain ⟨d, ρ2, F2, q2, e2, S2, r2⟩ := Rv.frz S1 r1 q1
    refine ⟨B, F2, ρ2, _, kd.x, S2, q2, fun r3 ρ3 F3 w H3 q3 e3 S3 r3' => ?_, m.mono (e1.tr e2)⟩
    obtain ⟨p, i, fs, rfl, hi, hl, q4⟩ := q3
    cases (show Rp X.K B.rs F3 w (.raw (.ref p)) from r3')
    obtain ⟨dx, vs, h1, h2, h3⟩ := S3.cellI hi
    have lv : vs.length = fs.length := by
      have := congrArg List.length h2
      simpa using this
    obtain ⟨g1, g2⟩ := putR (f := f) (r2.mono e3) h2 h3
    exact ⟨p, C, dx, vs, rfl, h1, c, na, by rw [lv]; exact hl, n.nx _ _ _ _ q4 ((e1.tr e2).tr e3) (S3.writeC i (o := .ins C dx (putF f v vs)) (b := .ins C (putD' f d fs)) hi ⟨rfl, g1, g2⟩)⟩, m⟩
end
abbrev TFnew := List D → (List (Str × D) → Prop) → Kx → Prop
def spI (K : PySem.W.Frag) (C : Addr) (T : TFnew) : Sp := fun vs H Q E => ∃ y dx vs' rs F ds k x, vs = V.ref y :: vs' ∧ H y = some (.ins C dx []) ∧ F y = none ∧ Gr ⟨rs, F, delH H y, [], []⟩ F H ∧ RpL K rs F vs' ds ∧ T ds k x ∧
  (∀ fs F' o H', k fs → Gr ⟨rs, F, delH H y, [], []⟩ F' H' → H' y = some o → ObR K rs F' o (.ins C fs) → F' y = none → Q .non H') ∧ (∀ C m F' c H', x C m → Gr ⟨rs, F, delH H y, [], []⟩ F' H' → XOk K ⟨rs, F, H, [], []⟩ F' H' c m → E (.ref C) c H')
@[simp ↓] def dMk (C : Addr) (T : TFnew) (ta : TDa) : TD := fun ρ k x => ta ρ (fun rs ρ1 => frzs ρ1 rs fun ds ρ2 => T ds (fun fs => k (.d (.ins C fs)) ρ2) x) x
@[simp ↓] def dMkC (C : Addr) (T : TFnew) (ta : TDa) : TD := fun ρ k x => ta ρ (fun rs ρ1 => frzs ρ1 rs fun ds ρ2 => T ds (fun fs => ∀ p, k (.d (.raw (.ref p))) (ρ2 ++ [.c p (.ins C fs)])) x) x
theorem Gr.made {B : Bs} {F H F' H' : Hp} {y dx C : Addr} (g : Gr B F H) (hy : H y = none) (hd : H dx = none) (c : Gr ⟨B.rs, F, delH (upd (upd H dx (.own y)) y (.ins C dx [])) y, [], []⟩ F' H') : Gr ⟨B.rs, F, H, [], []⟩ F' H' := by
  refine ⟨c.f0, c.fh, fun p o e n => ?_, fun p o e => ?_, c.ok, fun p hp => ⟨(c.ff p hp).1, ?_⟩, fun _ hx => (nomatch hx), Tb.nil c.tb.ft⟩
  · have n1 : p ≠ y := ne_of_none e hy
    have n2 : p ≠ dx := ne_of_none e hd
    refine c.h0 p o ?_ n
    show delH _ y p = some o
    rw [delH_ne n1, upd_ne n1, upd_ne n2]
    exact e
  · rcases c.nw p o e with z | z
    · exact .inl z
    · refine .inr ?_
      by_cases n1 : p = y
      · rw [n1]; exact hy
      · have z' : delH (upd (upd H dx (.own y)) y (.ins C dx [])) y p = none := z
        rw [delH_ne n1, upd_ne n1] at z'
        by_cases n2 : p = dx
        · rw [n2, upd_same] at z'; cases z'
        · rw [upd_ne n2] at z'; exact z'
  · obtain ⟨xs, e⟩ := Rs.ok_at g.ok p hp
    exact ⟨_, e⟩
theorem Gr.toInit {B : Bs} {F H : Hp} {y dx C : Addr} (g : Gr B F H) (hy : H y = none) (hd : H dx = none) : Gr ⟨B.rs, F, delH (upd (upd H dx (.own y)) y (.ins C dx [])) y, [], []⟩ F (upd (upd H dx (.own y)) y (.ins C dx [])) := by
  have k : ∀ p o, H p = some o → upd (upd H dx (.own y)) y (.ins C dx []) p = some o ∧ p ≠ y := fun p o e => ⟨by rw [upd_ne (ne_of_none e hy), upd_ne (ne_of_none e hd)]; exact e, ne_of_none e hy⟩
  refine ⟨Ex.rf _, fun p o e => (k p o (g.fh p o e)).1, fun p o e n => ?_, fun p o e => .inl e, Rs.ok_keep g.ok fun p hp => ?_, fun p hp => ⟨(g.ff p hp).1, ?_⟩, fun _ hx => (nomatch hx), Tb.nil g.tb.ft⟩
  · by_cases z : p = y
    · have e' : delH (upd (upd H dx (.own y)) y (.ins C dx [])) y p = some o := e
      rw [z, delH_same] at e'; cases e'
    · have e' : delH (upd (upd H dx (.own y)) y (.ins C dx [])) y p = some o := e
      rw [delH_ne z] at e'; exact e'
  · obtain ⟨xs, e⟩ := Rs.ok_at g.ok p hp
    rw [(k p _ e).1, e]
  · obtain ⟨xs, e⟩ := Rs.ok_at g.ok p hp
    exact ⟨_, by show delH _ y p = _; rw [delH_ne (k p _ e).2]; exact (k p _ e).1⟩
section
variable {X : Cx} {E : XK} {C f : Addr} {fd : FuncData} {ps : List Str} {x : Str} {p pos : Pos} {e : Expr} {es : List Expr} {ta : TDa} {T : TFnew} {k : Nat}
structure MakD (P : Program) (w : World) (K : PySem.W.Frag) (mg : Str → Option Value) (base : Heap) (k : Nat) (x : Str) (C : Addr) (T : TFnew) : Prop where
  ex : ∃ (f : Addr) (fd : FuncData) (ps : List Str), Mk K C f ∧ FnOk P w K mg base (L2.CX P w) k f fd ps (spI K C T) ∧ mg x = some (.ref C) ∧ Binds K fd ps []
theorem emMk {pins : List (Addr × Obj)} {B : Bs} {F : Hp} {ρ : List Sl} {σ : L2.St} {H : Hp} {k : Kn} {x : Kx} {Q : VK} (kk : List (Str × D) → List Sl → Prop)
    (hq : ∀ fs ρ' F' y dx vs H', kk fs ρ' → Ex F F' → Sat X.K B F' ρ' σ H' → H' y = some (.ins C dx vs) → vs.map (·.1) = fs.map (·.1) → RpL X.K B.rs F' (vs.map (·.2)) (fs.map (·.2)) → F' y = none → B.H0 y = none → (∀ x ∈ B.hl, x.1 ≠ y) → NoOwn ρ' σ y → Q (.ref y) H')
    (S : Sat X.K B F ρ σ H) (q : ta ρ (fun rs ρ1 => frzs ρ1 rs fun ds ρ2 => T ds (fun fs => kk fs ρ2) x) x) (m : nX X.K E B F x) : tMake C (spI X.K C T) [] E (emA X.K E ta) σ H Q := by
  refine ⟨B, F, ρ, _, x, S, q, fun rs ρ1 F1 vs H1 q1 e1 S1 r1 => ?_, m⟩
  intro y dx hy hd nd
  obtain ⟨ds, ρ2, F2, q2, e2, S2, r2⟩ := frzs_ok S1 r1 q1
  obtain ⟨f1, f2, f3⟩ := S2.toGr.fresh hy
  obtain ⟨o1, o2, o3, o4⟩ := S2.newO (o := .ins C dx []) hy
  refine ⟨y, dx, vs, B.rs, F2, ds, _, x, by rw [List.append_nil], upd_same, f1, S2.toGr.toInit hy hd, r2, q2, fun fs F' o H' q3 g hH r3 hF => ⟨rfl, ?_⟩, fun C m' F' c H' q3 g o => ?_⟩
  · have c := S2.toGr.made hy hd g
    cases o with
    | ins C' dx' vs' =>
      obtain ⟨rfl, h3, h4⟩ := r3
      exact hq fs ρ2 F' y dx' vs' H' q3 ((e1.tr e2).tr g.f0) (S2.call c) hH h3 h4 hF o2 o3 o4
    | _ => exact r3.elim
  · exact m C m' F' c H' q3 ((e1.tr e2).tr g.f0) (S2.toGr.call (S2.toGr.made hy hd g)) (by
      cases m' with
      | none => exact o
      | some p => exact o)
theorem de_mk {j : Nat} (c : MakD X.prog X.w X.K X.mg X.base k x C T) (hr : Room j X.A) (hx : Passes (L2.CX X.prog X.w) X E) (ha : DA X E (e :: es) ta) (hk : k + 1 ≤ j := by decide) (hg : Gl X x := by rfl)
    (hdb : (x == ("__debug__" : Str)) = false := by decide) (he : starEach (e :: es) X.env = (false, eval e X.env) :: starEach es X.env := by rfl) (hpl : (backTo pos (starEach es X.env)).any (·.1) = false := by rfl) :
    DE X E (.Call (.Name x p) (e :: es) [] pos) (dMk C T ta) := by
  obtain ⟨f, fd, ps, M, F, hm, b⟩ := c.ex
  refine de_of (pe_make M F (hr.mono hk) hg hm b .nil hx ha hdb he hpl) fun B F ρ σ H k x Q S q n m => emMk (X := X) (pins := []) (k := k) (fun fs ρ' => k (.d (.ins C fs)) ρ') (fun fs ρ' F' y dx vs H' q1 e1 S1 h1 h2 h3 h4 h5 h6 h7 => ?_) S q m
  have e3 : Ex F' (upd F' y (.ins C dx vs)) := Ex.up h4
  exact n _ _ _ _ _ q1 (e1.tr e3) (S1.know h1 h5 h4 h6 h7) (Rp.ins upd_same h2 (h3.mono e3))
theorem de_mkC {j : Nat} (c : MakD X.prog X.w X.K X.mg X.base k x C T) (hr : Room j X.A) (hx : Passes (L2.CX X.prog X.w) X E) (ha : DA X E (e :: es) ta) (hk : k + 1 ≤ j := by decide) (hg : Gl X x := by rfl)
    (hdb : (x == ("__debug__" : Str)) = false := by decide) (he : starEach (e :: es) X.env = (false, eval e X.env) :: starEach es X.env := by rfl) (hpl : (backTo pos (starEach es X.env)).any (·.1) = false := by rfl) :
    DE X E (.Call (.Name x p) (e :: es) [] pos) (dMkC C T ta) := by
  obtain ⟨f, fd, ps, M, F, hm, b⟩ := c.ex
  refine de_of (pe_make M F (hr.mono hk) hg hm b .nil hx ha hdb he hpl) fun B F ρ σ H k x Q S q n m => emMk (X := X) (pins := []) (k := k) (fun fs ρ' => ∀ p : Addr, k (Rx.d (.raw (.ref p))) (ρ' ++ [Sl.c p (.ins C fs)])) (fun fs ρ' F' y dx vs H' q1 e1 S1 h1 h2 h3 h4 h5 h6 h7 => ?_) S q m
  exact n _ _ _ _ _ (q1 y) e1 (S1.newC (b := .ins C fs) h1 ⟨rfl, h2, h3⟩ h4 h5 h6 h7) (Rp.raw _)
end
theorem ds_raise2 {X : Cx} {E : XK} {C : Addr} {cn fld : Str} {a : Expr} {te : TD} {p pos pos2 : Pos} {k : Nat} (hc : X.calm = true) (T : ∃ fI, PySem.DLE.ErrTxt X.prog X.K X.mg C fI cn fld) (hr : Room k X.A) (tk : Takes X fun cls d _ H => E cls d H) (ha : DE X E a te) (hg : Gl X cn) (hdb : (cn == ("__debug__" : Str)) = false := by decide)
    (he : starEach (a :: []) X.env = (false, eval a X.env) :: starEach [] X.env := by rfl) (hpl : (backTo pos (starEach [] X.env)).any (·.1) = false := by rfl) :
    DS X E (.Raise (some (.Call (.Name cn p) [a] [] pos)) none pos2) (dRaise C fld te) := by
  obtain ⟨fI, T⟩ := T
  exact ds_raise hc T hr tk ha hg hdb he hpl
theorem st0_get {N : Nat} {ds : List D} {i : Nat} {s : Sl} (h : (st0 N ds)[i]? = some s) : (∃ d, ds[i]? = some d ∧ s = .d d) ∨ s = .u := by
  unfold st0 at h
  by_cases hi : i < ds.length
  · rw [List.getElem?_append_left (by simpa using hi), List.getElem?_map] at h
    cases ed : ds[i]? with
    | none => rw [ed] at h; cases h
    | some d => rw [ed] at h; cases h; exact .inl ⟨d, rfl, rfl⟩
  · rw [List.getElem?_append_right (by simpa using hi), List.getElem?_replicate] at h
    split at h
    · cases h; exact .inr rfl
    · cases h
theorem st0_length {N : Nat} {ds : List D} (h : ds.length ≤ N) : (st0 N ds).length = N := by
  unfold st0
  simp
  omega
theorem sat_start {K : PySem.W.Frag} {B : Bs} {F H : Hp} {N : List Str} {vs : List V} {ds : List D} (g : Gr B F H) (r : RpL K B.rs F vs ds) (hl : ds.length ≤ N.length) : Sat K B F (st0 N.length ds) (L2.start N vs) H := by
  have hlv := r.length
  refine ⟨g, ?_, fun i s hs => ?_, fun a b xs ys w ha hb ea eb => ?_, fun a b p1 b1 b2 ha hb => ?_, fun a b xs p1 b1 ha hb => ?_⟩
  · rw [st0_length hl]
    unfold L2.start
    simp
    omega
  · rcases st0_get hs with ⟨d, hd, rfl⟩ | rfl
    · obtain ⟨v, h1, h2⟩ := r.get hd
      refine ⟨v, ?_, h2⟩
      have hi : i < ds.length := (List.getElem?_eq_some_iff.mp hd).1
      unfold L2.start
      rw [List.getElem?_append_left (by simp; omega), List.getElem?_map, h1]
      rfl
    · trivial
  · rcases st0_get ha with ⟨d, _, z⟩ | z <;> cases z
  · rcases st0_get ha with ⟨d, _, z⟩ | z <;> cases z
  · rcases st0_get ha with ⟨d, _, z⟩ | z <;> cases z
def finI (n : Nat) (p C : Addr) (k : List (Str × D) → Prop) (ρ : List Sl) : Prop := ∃ fs, ρ[n]? = some (Sl.c p (.ins C fs)) ∧ k fs
theorem fnI {P : Program} {w : World} {K : PySem.W.Frag} {mg : Str → Option Value} {base : Heap} {qual : Str} {st : Stmt} {f C : Addr} {fd : FuncData} {N ps : List Str} {j : Nat} {T : TFnew} {t : TDs}
    (Fn : Fun K "__init__" qual st f fd) (Sc : FnScope N ps (defScope st)) (hT : ∀ ds k x, T ds k x → ds.length + 1 = ps.length)
    (hd : ∀ (cdv : Value) (A : Around) (outer : List Env) (s : Shared) (H : Hp) (E : XK), Room j (A.deeper (envOfC qual (defScope st) s.heap.objs.size f cdv)) →
      DSs (cxOf (L2.CX P w) P w K mg base N qual (defScope st) f cdv A outer s H E) E (defBody st) t)
    (vc : ∀ ds k x p, T ds k x → t { nx := finI N.length p C k, rt := fun ρ d => d = .non ∧ finI N.length p C k ρ, bk := fun _ => False, ct := fun _ => False, x := x } (st0 N.length (.raw (.ref p) :: ds) ++ [.c p (.ins C [])])) :
    FnOk P w K mg base (L2.CX P w) (j + 1) f fd ps (spI K C T) := by
  have hlen : ∀ vs H Q E, spI K C T vs H Q E → vs.length = ps.length := fun vs H Q E h => by
    obtain ⟨y, dx, vs', rs, F, ds, k, x, rfl, _, _, _, r, t, _⟩ := h
    rw [List.length_cons, r.length]
    exact hT _ _ _ t
  refine Fn.okX Sc hlen fun cdv A outer s H vs Q E hr hsp => ⟨_, hd cdv A outer s H E hr, ?_⟩
  have hlv := hlen _ _ _ _ hsp
  obtain ⟨y, dx, vs', rs, F, ds, k, x, rfl, hy, hF, g, r, q, n, m⟩ := hsp
  have hN : ps.length ≤ N.length := by
    have e := congrArg List.length Sc.pre
    rw [List.length_take] at e
    omega
  have hl : (D.raw (.ref y) :: ds).length ≤ N.length := by
    have := hT _ _ _ q
    simp only [List.length_cons]
    omega
  have S0 : Sat K ⟨rs, F, delH H y, [], []⟩ F (st0 N.length (.raw (.ref y) :: ds)) (L2.start N (.ref y :: vs')) H := sat_start g (.cons (.raw _) r) hl
  have S1 := S0.newC (b := .ins C []) (p := y) hy ⟨rfl, rfl, .nil⟩ hF delH_same (fun _ h => nomatch h) ⟨fun j xs hj => (by rcases st0_get hj with ⟨d, _, z⟩ | z <;> cases z), fun j b hj => (by rcases st0_get hj with ⟨d, _, z⟩ | z <;> cases z)⟩
  have fin : ∀ {F' : Hp} {ρ' : List Sl} {σ' : L2.St} {H' : Hp}, finI N.length y C k ρ' → Sat K ⟨rs, F, delH H y, [], []⟩ F' ρ' σ' H' → Q .non H' := fun {F' ρ' σ' H'} ⟨fs, h1, h2⟩ S' => by
    obtain ⟨o, g1, g2, g3, _⟩ := S'.cell h1
    exact n fs F' o H' h2 S'.toGr g1 g2 g3
  refine ⟨⟨rs, F, delH H y, [], []⟩, F, _, _, S1, vc ds k x y q, ⟨fun ρ' F' σ' H' q' e' S' => fin q' S', fun _ _ _ _ q' => q'.elim, fun _ _ _ _ q' => q'.elim, fun d ρ' F' σ' v H' q' e' S' r' => ?_⟩, fun C m' F' c H' q' e' g' o => m C m' F' c H' q' g' (by
      cases m' with
      | none => exact o
      | some p => exact o)⟩
  obtain ⟨rfl, q'⟩ := q'
  cases r'
  exact fin q' S'
end DL
namespace DL
open PySem PySem.Spec PyProof.Rows L2
@[simp ↓] def dAsgDO (te : TD) (tf : TDf) (g : TDg) (i : Nat) : TDs := fun kd ρ => te ρ (fun r ρ1 => frz ρ1 r fun d ρ2 => tf ρ2 (fun xs ρ3 => g d ρ3 fun ρ4 => kd.nx (ρ4.set i (.o xs))) kd.x) kd.x
theorem ds_asgDO {X : Cx} {E : XK} {pos : Pos} {i : Nat} {x : Str} {tg a b : Expr} {is : List Nat} {g : TDg} {te : TD} {tf : TDf} {px pt : Pos} {kt k2 : Nat} {pt2 : Pos} (hc : X.calm = true) (hN : X.N.Nodup) (hi : X.N[i]? = some x)
    (hx : Loc X.env.scope x) (hg : DG X tg is g) (ha : DE X E a te) (hb : DF X E b tf)
    (hs : swapsWithSole [.Tuple [tg, .Name x px] kt pt] (.Tuple [a, b] k2 pt2) pos.line X.env = pure false := by rfl) (hw : swappedStores [.Tuple [tg, .Name x px] kt pt] (.Tuple [a, b] k2 pt2) X.env = pure none := by rfl)
    (h1 : (assignEach [.Tuple [tg, .Name x px] kt pt] X.env).map (·.2) = [assign (.Tuple [tg, .Name x px] kt pt) X.env] := by rfl)
    (hn : (assignEach [tg, .Name x px] X.env).length = 2 := by rfl) (hst : (assignEach [tg, .Name x px] X.env).findIdx? (·.1) = none := by rfl)
    (hs1 : (assignEach (tg :: [.Name x px]) X.env).map (·.2) = assign tg X.env :: (assignEach [.Name x px] X.env).map (·.2) := by rfl) (hs2 : (assignEach (.Name x px :: []) X.env).map (·.2) = assign (.Name x px) X.env :: (assignEach [] X.env).map (·.2) := by rfl)
    (he1 : starEach (a :: [b]) X.env = (false, eval a X.env) :: starEach [b] X.env := by rfl) (he2 : starEach (b :: []) X.env = (false, eval b X.env) :: starEach [] X.env := by rfl)
    (hf : X.fn x = true ∨ X.env.scope.names.lookup x = some .local := by first | exact .inl rfl | exact .inr rfl) :
    DS X E (.Assign [.Tuple [tg, .Name x px] kt pt] (.Tuple [a, b] k2 pt2) pos) (dAsgDO te tf g i) :=
  ds_ofN (ps_asg (pe_tup (pa_cons ha (pa_cons hb pa_nil he2) he1)) (pg_tup hc (pgs_cons hg (pgs_cons (pg_name hN hi hx hf) pgs_nil hs2) hs1) hn hst) hs hw h1) fun B F ρ σ H kd D hσ S q n m => ⟨B, F, ρ, _, kd.x, S, q, fun r ρ1 F1 v H1 q1 e1 S1 r1 => by
    obtain ⟨d, ρ2, F2, q2, e2, S2, r2⟩ := Rv.frz S1 r1 q1
    refine ⟨B, F2, ρ2, _, kd.x, S2, q2, fun xs ρ3 F3 y vs H3 q3 e3 S3 hy ry hF h0 hh ho => ?_, m.mono (e1.tr e2)⟩
    refine ⟨by show 2 ≤ sizeLine; rw [sizeLine_eq]; decide, fun p hp => ?_⟩
    have S4 := (S3.holdAt hy hF h0 ho).laidO (o := .tup [v, .ref y]) hp
    refine ⟨p, [v, .ref y], rfl, SqT.of upd_same, rfl, v, [.ref y], rfl, ?_⟩
    refine ⟨_, F3, ρ3, d, _, S4, r2.mono e3, q3, fun ρ' σ' q4 S5 l5 z5 => ?_⟩
    obtain ⟨g1, g2, g3, g4⟩ := S5.held (p := y) (o := .lst vs) List.mem_cons_self
    have S6 := S5.less (hs := B.hl) fun x hx => List.mem_cons_of_mem _ hx
    exact ⟨.ref y, [], rfl, rfl, n.nx _ _ _ _ q4 ((e1.tr e2).tr e3) (S6.setO i g1 ry g2 g3 hh g4 (by rw [l5]; exact ix_lt hσ hi))⟩, m⟩
end DL
namespace L2
open PySem PySem.Spec PyProof.Rows
def Ekp (cls : Value) (d : Option Addr) (a : Addr) : HO := .ext fun h => ∃ (ob : Obj) (fv : Array Value), h.get? a = some ob ∧ Zc cls d ob ∧ ob.data = .fields fv
theorem Ekp_ne {cls : Value} {d : Option Addr} {a : Addr} (ps : Array Value) : Ekp cls d a ≠ .tbl ps := fun z => by
  unfold Ekp at z
  cases z
section
variable {X : Cx} {pins : List (Addr × Obj)} {σ : St} {H : Hp} {s : Shared}
theorem Inv.track {a : Addr} {cls : Value} {d : Option Addr} {ob : Obj} {fv : Array Value} (I : Inv X pins σ H s) (hx : X.ex = []) (h0 : X.s_0.heap.get? a = none) (hs : s.heap.get? a = some ob) (hz : Zc cls d ob) (hd : ob.data = .fields fv) (nL : a ≠ X.env.locals) (nP : ∀ q ∈ X.pn ++ pins, q.1 ≠ a) (hn : H a = none) :
    Inv X pins σ (upd H a (Ekp cls d a)) s := by
  have old : ∀ c u, X.s_0.heap.get? c = some u → c ≠ a := fun c u e z => by rw [z, h0] at e; cases e
  have had : ∀ c u, H c = some u → c ≠ a := fun c u e z => by rw [z, hn] at e; cases e
  refine ⟨I.ok, I.os, I.bare, ⟨I.base.keep, I.base.slot, fun c u e n k => ?_, I.base.there, fun c xs e => ?_, fun c u v e => ?_, fun c ps e => ?_⟩, I.loc, I.cell, ?_, fun x c e => ?_, fun q hq => ?_, fun c u e => ?_, I.len⟩
  · rw [upd_ne (old c u e)]; exact I.base.free c u e n k
  · have q := I.base.tups c xs e
    rw [upd_ne (had c _ q)]; exact q
  · have q := I.base.frzs c u v e
    rw [upd_ne (had c _ q)]; exact q
  · obtain ⟨mo, q⟩ := I.base.tbls c ps e
    exact ⟨mo, by rw [upd_ne (had c _ q)]; exact q⟩
  · rw [upd_ne nL.symm]; exact I.free
  · have nc : c ≠ a := fun z => by
      obtain ⟨v, oc, e1, e2⟩ := I.cell x c e
      rw [z, hs] at e1
      cases e1
      rw [hd] at e2
      cases e2
    rw [upd_ne nc]; exact I.freeC x c e
  · obtain ⟨g1, g2, g3, g4, g5⟩ := I.pin q hq
    exact ⟨g1, by rw [upd_ne (nP q hq)]; exact g2, g3, g4, g5⟩
  · by_cases z : c = a
    · subst z
      rw [upd_same] at e
      cases e
      exact ⟨⟨ob, fv, hs, hz, hd⟩, ⟨ob, hs⟩, fun h1 h2 ⟨o1, v1, e1, e2, e3⟩ k => ⟨o1, v1, k o1 e1, e2, e3⟩⟩
    · rw [upd_ne z] at e
      exact (I.hok c u e).stay (fun _ _ _ q => q) (fun b q => by rw [upd_ne (had b _ q)]; exact q) fun b xs q => by rw [upd_ne (had b _ q)]; exact q
def wKeep (K : PySem.W.Frag) (c : Value) (i m : Nat) (ts : Addr → Value → Option Addr → TS) (Wout : WX) (D : Ends) : WX := fun cls d σ H =>
  ∃ b, PySem.W.exmOne K cls c = some b ∧ (b = true → σ.length = m → ∀ a, H a = none → ts a cls d { nx := fun σ1 H1 => D.nx (σ1.set i none) (upd H1 a (Ekp cls d a)), rt := fun _ _ => False } (σ.set i (some (.ref a))) H) ∧
    (b = false → Wout cls d σ H)
theorem ps_try_keep {x n : Str} {c : Value} {i : Nat} {body suite : List Stmt} {b₀ : Stmt} {np pos pos' : Pos} {tb : WX → TS} {ts : Addr → Value → Option Addr → TS} {Wout : WX} (hex : X.ex = []) (hst : X.stack = X.env :: X.outer) (hfl : X.env.frame = some X.env.locals) (hN : X.N.Nodup) (hi : X.N[i]? = some n) (hln : X.env.kindOf n = some .local) (hc : Names X x c) (tk : Takes X Wout)
    (hb : ∀ (W : WX) (pn : List (Addr × Obj)) (xe : Value → Shared → Prop), Takes (X.tr pn xe) W → PassesOwn (model X.prog X.w) X.A X.env xe → PSs (X.tr pn xe) body (tb W))
    (hsu : ∀ (a : Addr) (oe : Obj) (cls : Value) (d : Option Addr) (pn : List (Addr × Obj)), Zc cls d oe → (∃ vs, oe.data = .fields vs) → PSs (X.suite a ((a, oe) :: pn)) (b₀ :: suite) (ts a cls d)) :
    PS X (.Try body [.ExceptHandler (some (.Name x np)) (some n) (b₀ :: suite) pos'] [] [] pos) (fun D σ H => tb (wKeep X.K c i X.N.length ts Wout D) { D with bk := fun _ _ => False, ct := fun _ _ => False, rt := fun _ _ => False } σ H) := by
  refine ⟨fun pins st sl hp D J0 hq => ?_⟩
  have okX := J0.ok
  have hfs : X.A.frames = some (X.env :: X.outer) := by rw [okX.frames, hst]
  refine wpAny_Try_except (wpAny_mono ((hb (wKeep X.K c i X.N.length ts Wout D) (X.pn ++ pins) (fun e z₁ => wpAny (model X.prog X.w) X.A (noteFrame e X.env) (fun _ z₂ => wpAny (model X.prog X.w) X.A (setFlight e none) (fun _ z₃ =>
    wpAny (model X.prog X.w) X.A (handleBy e X.env [.ExceptHandler (some (.Name x np)) (some n) (b₀ :: suite) pos']) (SP X pins D) X.xe z₃) X.xe z₂) X.xe z₁) (fun u z hu => ?_) PassesOwn.looking).run [] st sl hp _ (J0.toTry _) hq) (fun fl z hz => ?_) fun _ _ he => he)
  · obtain ⟨a, G, zI, ps2, σ1, H1, cls, d, rfl, Jt, nb, up, sky, na, eos, bar, b, hmb, hy, hn'⟩ := hu
    have J : Inv X pins σ1 H1 zI := Jt.ofTry okX
    have sky2 : Sky G (X.env :: X.outer) a (Zc cls d) X.env.locals z.heap := hst ▸ sky
    show wpAny (model X.prog X.w) X.A (noteFrame (.ref a) X.env) _ _ _
    refine Sky.land Zc.steady hfs hfl sky2 fun h₃ f₃ up₃ => ?_
    have J₃ : Inv X pins σ1 H1 { z with heap := h₃ } := J.landed nb f₃.1 (up.trans up₃) eos bar
    obtain ⟨o₃, v₃, g₃, z₃, d₃⟩ := f₃.there
    have nfr : a ∉ frs (X.env :: X.outer) := fun hm => by
      obtain ⟨_, o', e', hnf⟩ := f₃.2.2.1.mem hm
      rw [g₃] at e'; cases e'
      exact hnf _ d₃
    have nLo : a ≠ X.env.locals := fun q => nfr (List.mem_filterMap.mpr ⟨X.env, List.mem_cons_self, by rw [hfl, q]⟩)
    have nFs : a ∉ X.fs := fun hm => by
      obtain ⟨e, he, q⟩ := List.mem_filterMap.mp hm
      exact nfr (List.mem_filterMap.mpr ⟨e, List.mem_cons_of_mem _ he, q⟩)
    -- the error is younger than all that stood ahead of it
    have young : zI.heap.get? a = none := by
      cases q : zI.heap.get? a with
      | none => rfl
      | some o =>
        have q2 := nb a o q (by rw [hst]; exact nfr)
        rw [f₃.2.1] at q2; cases q2
    have young0 : X.s_0.heap.get? a = none := by
      cases q : X.s_0.heap.get? a with
      | none => rfl
      | some o =>
        obtain ⟨o', q2⟩ := J.base.there a o q (by rw [hex]; exact fun q => nomatch q)
        rw [young] at q2; cases q2
    have nPin : ∀ q ∈ X.pn ++ pins, q.1 ≠ a := fun q hq z => by
      have q2 := (J.pin q hq).1
      rw [z, young] at q2; cases q2
    have S₃ := J₃.suite g₃ d₃ na nLo nFs
    refine wpAny_handleBy_cons (codeAny_handlers_test ?_) (by intro q; cases q)
    have lt : PySem.W.Looks (model X.prog X.w) h₃ (typeOf (.ref a)) cls := fun A Q E s k q => wpAny_typeOf_ref (k _ _ g₃) (by rw [z₃.1]; exact q)
    have lm := PySem.W.exm_one (M := model X.prog X.w) J₃.kIn lt hmb
    have named : ∀ {Q : Value → Shared → Prop} {E : Value → Shared → Prop}, Q c { z with heap := h₃ } → wpAny (model X.prog X.w) (X.A.mark (some (.ref a))) (eval (.Name x np) X.env) Q E { z with heap := h₃ } := fun {Q E} q => by
      obtain ⟨hg, hdb, hm | ⟨hm, hv, hnn⟩⟩ := hc
      · exact ld_glob (X := X.suite a ((a, o₃) :: (X.pn ++ pins))) S₃ hg hm q hdb
      · exact ld_blt (X := X.suite a ((a, o₃) :: (X.pn ++ pins))) S₃ hg hm hv q hnn hdb
    refine named (lm.here ?_)
    cases b with
    | true =>
      refine codeAny_handlers_suite_as (HandSPX.lands_againZ f₃ fun h₄ f₄ up₄ => ?_)
      have J₄ : Inv X pins σ1 H1 { z with heap := h₄ } := J.landed nb f₄.1 ((up.trans up₃).trans up₄) eos bar
      obtain ⟨o₄, v₄, g₄, z₄, d₄⟩ := f₄.there
      have S₄ := J₄.suite g₄ d₄ na nLo nFs
      refine store_ok (X := X.suite a ((a, o₄) :: (X.pn ++ pins))) (v := .ref a) S₄ hN hi (.inl hln) rfl (fun z5 S5 => ?_) (.inr hln)
      refine wpAny_mono ((hsu a o₄ cls d (X.pn ++ pins) z₄ ⟨_, d₄⟩).run [] z5 _ H1 _ S5 (hy rfl J.len a na)) (fun fl z6 hz6 => ?_) (fun _ _ q => q.elim)
      cases fl with
      | next =>
        obtain ⟨σ6, H6, S6, q6⟩ := hz6
        obtain ⟨p1, p2, _, _, _⟩ := S6.pin (a, o₄) (by rw [List.append_nil]; exact List.mem_cons_self)
        have J6 := (S6.unsuite okX).track hex young0 p1 z₄ d₄ nLo nPin p2
        exact gone_ok J6 hN hi hln fun z7 J7 => ⟨_, _, J7, q6⟩
      | brk =>
        obtain ⟨_, _, _, q6⟩ := hz6
        exact q6.elim
      | cont =>
        obtain ⟨_, _, _, q6⟩ := hz6
        exact q6.elim
      | ret u =>
        obtain ⟨_, _, _, _, _, q6⟩ := hz6
        exact q6.elim
    | false =>
      show wpAny _ X.A (handleBy (.ref a) X.env []) _ _ _
      refine wpAny_handleBy_nil ?_
      obtain ⟨k1, k2, k3, oe, vs, T, oT, ts', he, hz', hd, h1, hr⟩ := id f₃
      unfold PySem.passOn
      refine wpAny_bind (wpAny_field he hd h1 ?_)
      rw [if_neg (show ¬ ((Value.ref T == Value.none) = true) from by simp)]
      have fin : wpAny (model X.prog X.w) X.A (setFlight (.ref a) X.env.frame) (fun _ s4 => wpAny (model X.prog X.w) X.A (throw (.ref a) : Sem Flow) (SP X pins D) X.xe s4) X.xe { z with heap := h₃ } := by
        rw [hfl]
        refine HandSPX.setFlight_upZ f₃ fun h₅ f₅ up₅ => wpAny_throw (tk _ _ ?_)
        exact ⟨a, G, zI, pins, σ1, H1, cls, d, rfl, J, nb, (up.trans up₃).trans up₅, .inr (.inr (by rw [hst]; exact f₅)), na, eos, bar, hn' rfl⟩
      first
        | exact wpAny_bind (wpAny_pure (wpAny_bind fin))
        | exact wpAny_bind fin
  · cases fl with
    | next =>
      obtain ⟨σ1, H1, J1, q⟩ := hz
      exact wpAny_execs_nil ⟨σ1, H1, J1.ofTry okX, q⟩
    | brk =>
      obtain ⟨_, _, _, q⟩ := hz
      exact q.elim
    | cont =>
      obtain ⟨_, _, _, q⟩ := hz
      exact q.elim
    | ret u =>
      obtain ⟨_, _, _, _, _, q⟩ := hz
      exact q.elim
end
section
variable {X : Cx}
def rIsK (K : PySem.W.Frag) : List V → Hp → VK → Prop := fun xs H Q => ∃ (a D dd : Addr) (c : V) (cv : Value) (b : Bool), xs = [.ref a, c] ∧ ExcC K D ∧ H a = some (Ekp (.ref D) (some dd) a) ∧ (∃ fs, H dd = some (.xd fs)) ∧ (∀ u, RelV c u → u = cv) ∧ PySem.W.kitOne K (.ref D) cv = some b ∧ Q (.bl b) H
theorem kept_at {pins : List (Addr × Obj)} {σ : St} {H : Hp} {s : Shared} {a D dd : Addr} {fs : List (Str × V)} (I : Inv X pins σ H s) (ha : H a = some (Ekp (.ref D) (some dd) a)) (hd : H dd = some (.xd fs)) :
    ∃ (ob od : Obj) (mA : Str → Option Value), PySem.W.InstAt s.heap a ob D (some od) ∧ (∀ f, RelO (fs.lookup f) (mA f)) ∧ ∀ f, PySem.W.lookIn f od = some (mA f) := by
  obtain ⟨⟨ob, fv, e1, hz, e2⟩, _, _⟩ := I.hok a _ ha
  have hx : ObjOk X.prog X.w H s.heap dd (.xd fs) := I.hok dd _ hd
  obtain ⟨mA, hns, hr⟩ := hx
  obtain ⟨od, ho, hl⟩ := lookIn_ns hns
  exact ⟨ob, od, mA, ⟨e1, hz.1, by unfold PySem.W.notCls; rw [e2] <;> rfl, by rw [hz.2]; exact ho⟩, hr, fun f => by rw [hl]⟩
theorem call_isK : CallR X (.builtin "isinstance") (rIsK X.K) := by
  intro pins s σ H xs us Q I r h
  obtain ⟨a, D, dd, c, cv, b, rfl, EC, ha, ⟨fs, hd⟩, hcv, e, q⟩ := h
  cases r with
  | cons rx rr =>
    cases rr with
    | cons rt rr =>
      cases rr
      cases rx
      cases hcv _ rt
      obtain ⟨ob, od, mA, J, _, _⟩ := kept_at I ha hd
      exact PySem.W.kia_one (PySem.W.kitx_exc (by obtain ⟨cd, hc, _⟩ := PySem.W.any_some EC.hd; rw [hc]; rfl) EC.hg EC.hk EC.hs EC.ha EC.hn EC.ht EC.hm) I.kIn J e (fun z => nomatch z) fun tk => ⟨.bl b, H, I.kept (t' := tk) fun _ _ z => z, rfl, q⟩
def tKf (K : PySem.W.Frag) (f : Str) (te : TE) : TE := fun σ H Q => te σ H fun x H1 => ∃ (a D dd : Addr) (fs : List (Str × V)) (v : V), x = .ref a ∧ XfC K D ∧ PySem.W.findIn K (.ref D) f = some none ∧ H1 a = some (Ekp (.ref D) (some dd) a) ∧ H1 dd = some (.xd fs) ∧ fs.lookup f = some v ∧ Q v H1
theorem pe_kf {e : Expr} {te : TE} {pos : Pos} {f : Str} (he : PE X e te) (hb : attributeBase e f X.env (eval e X.env) = eval e X.env := by rfl) : PE X (.Attribute e f pos) (tKf X.K f te) := by
  refine ⟨fun pins s σ H Q I h => ?_⟩
  refine attr_of hb (thn (he.run pins s σ H _ I h) fun u s1 hh => ?_)
  obtain ⟨x, H1, I1, rx, a, D, dd, fs, v, ex, T, hno, ha, hd, l, q⟩ := hh
  subst ex
  obtain rfl : u = Value.ref a := rx
  obtain ⟨ob, od, mA, J, hr, hl⟩ := kept_at I1 ha hd
  obtain ⟨u, hu, ru⟩ := RelO.some_of (v := v) (o := mA f) (by rw [← l]; exact hr f)
  exact HandSPX.exc_get I1.kIn J T.ga T.gg T.exC (PySem.W.findObj_own T.hdC hno rfl (by rw [hl, hu])) (handed_of ru) ⟨v, H1, I1.tok _, ru, q⟩
end
end L2
namespace DL
open PySem PySem.Spec PyProof.Rows L2
section
variable {K : PySem.W.Frag} {B : Bs} {F F' H H' : Hp} {ρ : List Sl} {σ : L2.St}
theorem Gr.tabs (g : Gr B F H) (e : LamX.ExtN H H') (hT : ∀ p ∈ B.tb, LamX.TabS H' p.1 p.2) (ne : B.tb ≠ []) : Gr B F H' := by
  have k : ∀ p xs, H p = some (.lst xs) → H' p = some (.lst xs) := fun p xs q => e p _ q fun _ z => (by cases z)
  refine ⟨g.f0, fun a o q => e a o (g.fh a o q) fun ps z => g.tb.ft a ps (by rw [q, z]), fun a o q n => e a o (g.h0 a o q n) fun ps z => g.tb.ht ne a ps (by rw [q, z]), g.nw, Rs.ok_keep g.ok fun p hp => ?_, g.ff, fun x hx => ?_, g.tb.ft, g.tb.hn, fun q hq => ?_, g.tb.ht⟩
  · obtain ⟨xs, q⟩ := Rs.ok_at g.ok p hp
    rw [q]; exact k p xs q
  · obtain ⟨h1, h2, h3⟩ := g.hd x hx
    exact ⟨e _ _ h1 (g.tb.hn x hx), h2, h3⟩
  · exact ⟨hT q hq, (g.tb.tk q hq).2⟩
theorem Sat.tabs (s : Sat K B F ρ σ H) (e : LamX.ExtN H H') (hT : ∀ p ∈ B.tb, LamX.TabS H' p.1 p.2) (ne : B.tb ≠ []) : Sat K B F ρ σ H' := by
  refine ⟨s.toGr.tabs e hT ne, s.len, fun i t ht => ?_, s.dj, s.di, s.dc⟩
  have q := s.sl i t ht
  cases t with
  | u => trivial
  | t P n => exact q
  | d x => exact q
  | o xs =>
    obtain ⟨p, vs, h1, h2, h3⟩ := q
    exact ⟨p, vs, h1, e _ _ h2 (fun _ z => by cases z), h3⟩
  | c p b =>
    obtain ⟨o, h1, h2, h3⟩ := q
    refine ⟨o, e _ _ h1 (fun ps z => ?_), h2, h3⟩
    obtain ⟨o', e1, n1, _⟩ := h2.nl
    cases e1
    exact n1 ps z
def Sl.plain : Sl → Bool
  | .u => true
  | .d _ => true
  | .t _ _ => true
  | _ => false
theorem Sat.again (s : Sat K B F ρ σ H) (g : Gr B F' H') (e : Ex F F') (hp : ρ.all Sl.plain = true) : Sat K B F' ρ σ H' := by
  refine ⟨g, s.len, fun i t ht => ?_, s.dj, s.di, s.dc⟩
  have q := s.sl i t ht
  have ht2 := List.all_eq_true.mp hp t (List.mem_of_getElem? ht)
  cases t with
  | u => trivial
  | t P n => exact q
  | d x => obtain ⟨y, h1, h2⟩ := q; exact ⟨y, h1, h2.mono e⟩
  | o xs => simp [Sl.plain] at ht2
  | c p b => simp [Sl.plain] at ht2
end
abbrev Tells := List (Addr × Str × Str)
def toldX (L : Tells) (Q : VK) : XK := fun cls d H1 => ∃ (e : Addr × Str × Str) (dd : Addr) (v : V), e ∈ L ∧ cls = .ref e.1 ∧ d = some dd ∧ H1 dd = some (.xd [(e.2.1, v)]) ∧ ∀ (a p : Addr) (o : HO), (∀ ps, o ≠ .tbl ps) → H1 a = none → upd H1 a o p = none → Q (.ref p) (upd (upd H1 a o) p (.tup [.str e.2.2, v]))
def toldV (Q : VK) : VK := fun v H1 => ∀ p, H1 p = none → Q (.ref p) (upd H1 p (.tup [.str "value", v]))
def toldT (L : Tells) : (XK → Hp → VK → Prop) → Hp → VK → Prop := fun tl H Q => ∀ (E : XK) (R : VK), (∀ c d H1, toldX L Q c d H1 → E c d H1) → (∀ v H1, toldV Q v H1 → R v H1) → tl E H R
@[simp ↓] def dTold (L : Tells) (P : Addr) (n : Str) (te : TD) : TD := fun ρ k _ => (∃ i : Nat, ρ[i]? = some (Sl.t P n)) ∧ ρ.all Sl.plain = true ∧ (∀ e ∈ L, SOk e.2.2) ∧
  te ρ (fun r ρ1 => frz ρ1 r fun d ρ2 => k (.d (.tup [.str "value", d])) ρ2) (fun C m => ∃ w d, (∃ f, (C, f, w) ∈ L ∧ m = some (f, d)) ∧ k (.d (.tup [.str w, d])) ρ)
section
variable {X : Cx}
theorem told_imp {E1 : XK} {L : Tells} {te : TD} {P' : Addr} {n' : Str} {σ : L2.St} {H : Hp} {Q : VK} (h : emE X.K E1 (dTold L P' n' te) σ H Q) : LamX.tLam [(P', n')] (toldT L) (fun E => emE X.K E te) σ H Q := by
  obtain ⟨B, F, ρ, k, x, S, ⟨⟨i, hi⟩, hp, hso, q⟩, nv, nx⟩ := h
  have htb : B.tb = [(P', n')] := S.sl i _ hi
  refine ⟨fun p hp => (S.tb.tk p (by rw [htb]; exact hp)).1, fun H1 e T1 => ?_⟩
  have S1 := S.tabs e (fun p hp => T1 p (by rw [← htb]; exact hp)) (by rw [htb]; exact fun z => nomatch z)
  intro E R hE hR
  refine ⟨B, F, ρ, _, _, S1, q, fun r ρ1 F1 v H2 q1 e1 S2 r1 => hR _ _ fun p hpn => ?_, fun C m F1 c H2 q1 e1 g1 o1 => hE _ _ _ ?_⟩
  · obtain ⟨d, ρ2, F2, q2, e2, S3, r2⟩ := Rv.frz S2 r1 q1
    have e3 : Ex F2 (upd F2 p (.tup [.str "value", v])) := Ex.up (S3.toGr.fresh hpn).1
    exact nv _ _ _ _ _ q2 ((e1.tr e2).tr e3) (S3.laidF hpn) (Rp.tup (SqT.of upd_same) (.cons (.str _ (sok_of (by decide +kernel))) (.cons (r2.mono e3) .nil)))
  · obtain ⟨w, d, ⟨f, hm, rfl⟩, q2⟩ := q1
    obtain ⟨dd, v, rfl, hdd, rv⟩ := o1
    refine ⟨(C, f, w), dd, v, hm, rfl, rfl, hdd, fun a p o ho ha hpn => ?_⟩
    have S4 := (S1.again g1 e1 hp).laidO (o := o) ha ho
    have e3 : Ex F1 (upd F1 p (.tup [.str w, v])) := Ex.up (S4.toGr.fresh hpn).1
    exact nv _ _ _ _ _ q2 (e1.tr e3) (S4.laidF hpn) (Rp.tup (SqT.of upd_same) (.cons (.str _ (hso _ hm)) (.cons (rv.mono e3) .nil)))
theorem de_told {E1 : XK} {L : Tells} {x a n : Str} {c P : Addr} {k : Nat} {st : Stmt} {Ng : List Str} {params : Arguments} {body : Expr} {scope : Scope} {te : TD} {p lpos pos : Pos} (hg : Gl X x) (D : DefP X.K X.mg x st [a]) (Sg : FnScope Ng [a] (defScope st)) (hNg : Ng[0]? = some a) (hva : Vis (defScope st) a)
    (hG : ∀ (g : Addr) (cdv : Value), LamX.GivesTo X Ng x (defScope st) g cdv (defBody st) a n (toldT L))
    (TB : LamX.TabB X.base X.mg c P) (hcode : X.env.code = .ref c) (hn : X.env.qual ++ "<lambda>" = n) (hr : Room (k + 2) X.A) (Ls : LamX.LamS X.env.scope scope) (hdef : defaultsOf params X.env = ([], []))
    (hbind : ∀ (q : Str) (cl : List (Str × Addr)) (pm cv ctv : Value), bindArgs (PySem.W.kla_fn "<lambda>" q params body scope cl pm cv ctv) ⟨[], []⟩ = pure [])
    (hbody : ∀ (A : Around) (outer : List Env) (s : Shared) (H : Hp) (E : XK) (f c' : Addr), Room k (A.deeper (LamX.lamEnv X scope s.heap.objs.size f c')) → DE (LamX.lamCx X A outer s H E scope f c') E body te)
    (hdb : (x == ("__debug__" : Str)) = false := by decide) (hd : (a == ("__debug__" : Str)) = false := by decide) (hcd : (a == ("__classdict__" : Str)) = false := by decide) :
    DE X E1 (.Call (.Name x p) [.Lambda params body scope lpos] [] pos) (dTold L P n te) := by
  obtain ⟨f, fd, F, hm, kp, b⟩ := D
  obtain ⟨oc, od, kV, doc, pm, an, cdv, ct, osl, rfl, lk, hcd'⟩ := F.ex
  subst hn
  exact PE.imp (LamX.pe_lamcall (T := [(P, X.env.qual ++ "<lambda>")]) (t := fun E => emE X.K E te) hg hm kp lk hcd' b Sg hNg hva (hG f cdv) TB hcode (List.mem_singleton.mpr rfl) (fun p hp _ => by rw [List.mem_singleton.mp hp]) hr Ls hdef hbind hbody hdb hd hcd) fun σ H Q h => told_imp h
end
@[simp ↓] def dLcC (ti : TDi) (g : TDg) (tt : TDt) (te : TD) (vs : List Nat) : TD := fun ρ k x => dLc ti g tt te vs ρ (fun r ρ2 => ∃ xs, r = .d (.lst xs) ∧ ∀ p, k (.d (.raw (.ref p))) (ρ2 ++ [Sl.c p (.lst xs)])) x
@[simp ↓] def dOrC (ta tb : TD) : TD := fun ρ k x => ta ρ (fun r ρ1 => ∃ (p : Addr) (i : Nat) (xs : List D), r = Rx.d (.raw (.ref p)) ∧ ρ1[i]? = some (Sl.c p (.lst xs)) ∧ if xs.isEmpty = true then tb ρ1 k x else k r ρ1) x
section
variable {X : Cx} {E : XK} {elt tg iter a b : Expr} {ifs rest : List Expr} {scope : Scope} {own : List (Str × Nat)} {pos : Pos} {ti : TDi} {g : TDg} {tt : TDt} {te ta tb : TD}
theorem de_lcC (hc : X.calm = true) (hN : X.N.Nodup) (hi : DI X E tg iter ti) (ok : BlkOk X.N X.env.scope scope own)
    (hg : ∀ (s : Shared) (H : Hp) (C : Addr) (cl : List (Str × Addr)) (fp : List Addr), DG (X.blk s H scope (compEnvC scope cl C X.env) fp) tg (own.map (·.2)) g) (ht : ∀ (s : Shared) (H : Hp) (C : Addr) (cl : List (Str × Addr)) (fp : List Addr), DTs (X.blk s H scope (compEnvC scope cl C X.env) fp) E0 ifs tt)
    (he : ∀ (s : Shared) (H : Hp) (C : Addr) (cl : List (Str × Addr)) (fp : List Addr), DE (X.blk s H scope (compEnvC scope cl C X.env) fp) E0 elt te) (hs : ∀ x, foldedSetIterable iter X.env x = pure x := by intro _; rfl) :
    DE X E (.ListComp elt [⟨tg, iter, ifs, 0⟩] scope pos) (dLcC ti g tt te (own.map (·.2))) :=
  de_of (pe_lc (g := emG X.K (own.map fun (p : Str × Nat) => p.2) g) (tt := emT X.K E0 tt) (te := emE X.K E0 te) hc hN hi ok hg ht he hs) fun B F ρ σ H k x Q S q n m => by
    refine ⟨B, F, ρ, _, x, S, q, fun ds ρ1 F1 J H1 q1 e1 S1 it => fun Dl hD => ?_, m⟩
    refine lc_run S1 it q1 hD fun F' ρ' acc xs H' e2 S2 q2 h1 ra h2 h3 h4 h5 => ?_
    obtain ⟨ys, ey, q3⟩ := q2
    cases ey
    exact n _ _ _ _ _ (q3 Dl) (e1.tr e2) (S2.newC (b := .lst xs) h1 ra h2 h3 h4 h5) (Rp.raw _)
theorem de_orC (ha : DE X E a ta) (hb : DE X E (.BoolOp .Or (b :: rest) pos) tb) : DE X E (.BoolOp .Or (a :: b :: rest) pos) (dOrC ta tb) :=
  de_of (pe_orT ha hb) fun B F ρ σ H k x Q S q n m => ⟨B, F, ρ, _, x, S, q, fun r ρ1 F1 v H1 q1 e1 S1 r1 => by
    obtain ⟨p, i, xs, rfl, hi, q2⟩ := q1
    cases (show Rp X.K B.rs F1 v (.raw (.ref p)) from r1)
    obtain ⟨vs, hH, rl⟩ := S1.cellL hi
    refine ⟨!vs.isEmpty, .inl ⟨vs, SqL.of hH, rfl⟩, ?_⟩
    rw [rl.isEmpty]
    by_cases c : xs.isEmpty = true
    · rw [if_pos c] at q2
      rw [c]
      exact ⟨B, F1, ρ1, k, x, S1, q2, n.mono e1, m.mono e1⟩
    · rw [if_neg c] at q2
      have c' : xs.isEmpty = false := by simpa using c
      rw [c']
      exact n _ _ _ _ _ q2 e1 S1 r1, m⟩
end
def reprOk (d : D) : Prop := d.pure = true ∧ (∃ ds, d = .tup ds) ∧ d.py.showable = true ∧ d.py.hasDict = false ∧ d.py.depth ≤ 64 ∧ d.py.shown.length ≤ 16777216
def rReprG (K : PySem.W.Frag) : List V → Hp → VK → Prop := fun xs H Q => ∃ a d, xs = [V.ref a] ∧ Dp K H (.ref a) d ∧ d.showable = true ∧ d.hasDict = false ∧ d.depth ≤ 64 ∧ d.shown.length ≤ sizeLine ∧ Q (.str d.shown) H
theorem cr_reprG {X : Cx} (hg : X.A.guards = some []) (hu : X.A.units + 66 < cLine) : CallR X (.builtin "repr") (rReprG X.K) := by
  intro pins s σ H xs us Q I r h
  obtain ⟨a, d, rfl, hd, h1, h2, h3, h4, q⟩ := h
  obtain ⟨u, rfl, ru⟩ := vals1 r
  cases ru
  obtain ⟨as, rd⟩ := Dp.reads I d _ _ hd rfl
  exact repr_of_reads' rd h1 (fun z => by rw [h2] at z; cases z) hg (by omega) (fun _ _ e => e) (fun h' u' tk hk => ⟨.str d.shown, H, I.kept hk, ⟨_, rfl⟩, q⟩) h4
@[simp ↓] def dNeRepr (ta tb : TD) : TD := fun ρ k x => ta ρ (fun ra ρ1 => val ρ1 ra fun a => reprOk a ∧ tb ρ1 (fun rb ρ2 => val ρ2 rb fun b => reprOk b ∧ k (.d (.bl (!decide (a.py.shown = b.py.shown)))) ρ2) x) x
section
variable {X : Cx} {E : XK} {a b : Expr} {ta tb : TD} {p1 p2 c1 c2 pos : Pos}
theorem emNeRepr {B : Bs} {F : Hp} {ρ : List Sl} {σ : L2.St} {H : Hp} {k : Kn} {x : Kx} {Q : VK} (S : Sat X.K B F ρ σ H) (q : dNeRepr ta tb ρ k x) (n : nV X.K B F σ k Q) (m : nX X.K E B F x) :
    tOp rNe (tCB (rReprG X.K) (L2.tCons (emE X.K E ta) L2.tNil)) (tCB (rReprG X.K) (L2.tCons (emE X.K E tb) L2.tNil)) σ H Q := by
  refine ⟨B, F, ρ, _, x, S, q, fun ra ρ1 F1 v H1 q1 e1 S1 r1 => ?_, m⟩
  obtain ⟨a', ⟨⟨p1, ⟨ds, rfl⟩, p3, p4, p5, p6⟩, q2⟩, r2⟩ := Rv.val S1 r1 q1
  obtain ⟨y, vs, rfl, hy, rl⟩ := r2.tup
  obtain ⟨g1, _⟩ := r2.dp S1.fh p1
  refine ⟨y, _, rfl, g1, p3, p4, p5, by rw [sizeLine_eq]; exact p6, ?_⟩
  refine ⟨B, F1, ρ1, _, x, S1, q2, fun rb ρ2 F2 w H2 q3 e2 S2 r3 => ?_, m.mono e1⟩
  obtain ⟨b', ⟨⟨o1, ⟨es, rfl⟩, o3, o4, o5, o6⟩, q4⟩, r4⟩ := Rv.val S2 r3 q3
  obtain ⟨z, ws, rfl, hz, rk⟩ := r4.tup
  obtain ⟨g2, _⟩ := r4.dp S2.fh o1
  refine ⟨z, _, rfl, g2, o3, o4, o5, by rw [sizeLine_eq]; exact o6, ?_⟩
  refine ⟨rfl, ?_⟩
  have e : decide (V.str (D.tup ds).py.shown = V.str (D.tup es).py.shown) = decide ((D.tup ds).py.shown = (D.tup es).py.shown) := by
    rw [Bool.eq_iff_iff]; simp
  rw [e]
  exact n _ _ _ _ _ q4 (e1.tr e2) S2 (.bl _)
theorem dt_neRepr (hg : X.A.guards = some []) (hu : X.A.units + 66 < cLine) (gl : Gl X "repr") (hm : X.mg "repr" = none) (ha : DE X E a ta) (hb : DE X E b tb)
    (he : starEach (a :: []) X.env = (false, eval a X.env) :: starEach [] X.env := by rfl) (he2 : starEach (b :: []) X.env = (false, eval b X.env) :: starEach [] X.env := by rfl) (hpl : (backTo c1 (starEach [] X.env)).any (·.1) = false := by rfl) (hpl2 : (backTo c2 (starEach [] X.env)).any (·.1) = false := by rfl) :
    DT X E (.Compare (.Call (.Name "repr" p1) [a] [] c1) [.NotEq] [.Call (.Name "repr" p2) [b] [] c2] pos) (dTst (dNeRepr ta tb)) :=
  dt_of (pt_cmpR op_ne (pe_callB (cr_reprG hg hu) gl hm bt_repr (pa_cons ha pa_nil he) (by decide) (by decide) he hpl) (pe_callB (cr_reprG hg hu) gl hm bt_repr (pa_cons hb pa_nil he2) (by decide) (by decide) he2 hpl2) (nomark _))
    fun B F ρ σ H k x Q S q n m => emNeRepr S q (nTst n) m
end
def rMulS : R2 := fun x y H Q => ∃ a n, x = .str a ∧ y = .int n ∧ MulOk a n ∧ Q (.str (Txt.mul a n)) H
theorem op_mulS {X : Cx} : OpR X (binaryOp .Mult) rMulS := by
  intro pins s σ H x y v u Q I rx ry h
  obtain ⟨a, n, rfl, rfl, hok, q⟩ := h
  obtain ⟨t, rfl⟩ := rx
  obtain ⟨t', rfl⟩ := ry
  exact PySem.SB.mul hok fun t2 k => ⟨.str _, H, I.tok _, ⟨_, rfl⟩, q⟩
@[simp ↓] def dMulS (a b : D) (k : D → Prop) : Prop := match a, b with
  | .str s, .int n => MulOk s n ∧ SOk (Txt.mul s n) ∧ k (.str (Txt.mul s n))
  | _, _ => False
theorem opd_mulS {K : PySem.W.Frag} : OpD K rMulS dMulS := fun B F ρ σ H v w a b k Q S ra rb q n => by
  unfold dMulS at q
  split at q
  · obtain ⟨rfl, _⟩ := ra.str
    cases rb.int
    exact ⟨_, _, rfl, rfl, q.1, n _ _ _ _ q.2.2 (Ex.rf _) S (.str _ q.2.1)⟩
  · exact q.elim
end DL
namespace DL
open PySem PySem.Spec PyProof.Rows L2
theorem hu66 {j : Nat} {A : Around} (r : Room j A) : A.units + 66 < cLine := by
  have := r.un
  omega
structure TellF (K : PySem.W.Frag) (mg : Str → Option Value) (cB cT cS cG : Addr) : Prop where
  gB : mg "BuildError" = some (.ref cB)
  gT : mg "BadText" = some (.ref cT)
  gS : mg "BadSchema" = some (.ref cS)
  gG : mg "BadGraph" = some (.ref cG)
  isi : mg "isinstance" = none
  ex : ∀ D ∈ [cT, cS, cG], PySem.W.exmOne K (.ref D) (.ref cB) = some true ∧ ExcC K D ∧ XfC K D
  nT : PySem.W.findIn K (.ref cT) "row" = some none
  nS : PySem.W.findIn K (.ref cS) "name" = some none
  nG : PySem.W.findIn K (.ref cG) "name" = some none
  kST : PySem.W.kitOne K (.ref cS) (.ref cT) = some false
  kGT : PySem.W.kitOne K (.ref cG) (.ref cT) = some false
  kGS : PySem.W.kitOne K (.ref cG) (.ref cS) = some false
def tells (cT cS cG : Addr) : Tells := [(cT, "row", "text"), (cS, "name", "schema"), (cG, "name", "graph")]
theorem kit_self {K : PySem.W.Frag} {D : Addr} : PySem.W.kitOne K (.ref D) (.ref D) = some true := by
  unfold PySem.W.kitOne
  rw [if_pos (by simp)]
abbrev tellN : List Str := ["work", "error", "found", "e"]
structure TellS (sg : Scope) : Prop where
  l : ∀ y ∈ tellN, sg.names.lookup y = some .local
  g : ∀ y ∈ ([("BuildError" : Str), "BadText", "BadSchema", "BadGraph", "isinstance"]), sg.names.lookup y = some .globalImplicit
theorem told_gives {X : Cx} {x n : Str} {sg : Scope} {g cB cT cS cG : Addr} {cdg : Value} (TF : TellF X.K X.mg cB cT cS cG) (TS : TellS sg) {j1 j2 j3 j4 j5 j6 j7 k1 k2 k3 k4 k5 : Nat}
    {p1 p2 p3 p4 p5 p6 p7 p8 p9 p10 p11 p12 p13 p14 p15 p16 p17 p18 p19 p20 p21 p22 p23 p24 p25 p26 p27 p28 p29 p30 p31 p32 p33 p34 p35 p36 p37 p38 p39 p40 p41 p42 p43 p44 p45 p46 p47 p48 p49 p50 p51 p52 p53 : Pos} :
    LamX.GivesTo X tellN x sg g cdg [.Assign [.Name "error" p1] (.Constant .none j1 p2) p3,
      .Try [.Assign [.Name "found" p4] (.Call (.Name "work" p5) [] [] p6) p7] [.ExceptHandler (some (.Name "BuildError" p8)) (some "e") [.Assign [.Name "error" p9] (.Name "e" p10) p11] p12] [] [] p13,
      .If (.Compare (.Name "error" p14) [.Is] [.Constant .none j2 p15] p16) [.Return (some (.Tuple [.Constant (.str "value") j3 p17, .Name "found" p18] k1 p19)) p20] [] p21,
      .If (.Call (.Name "isinstance" p22) [.Name "error" p23, .Name "BadText" p24] [] p25) [.Return (some (.Tuple [.Constant (.str "text") j4 p26, .Attribute (.Name "error" p27) "row" p28] k2 p29)) p30] [] p31,
      .If (.Call (.Name "isinstance" p32) [.Name "error" p33, .Name "BadSchema" p34] [] p35) [.Return (some (.Tuple [.Constant (.str "schema") j5 p36, .Attribute (.Name "error" p37) "name" p38] k3 p39)) p40] [] p41,
      .Return (some (.IfExp (.Call (.Name "isinstance" p42) [.Name "error" p43, .Name "BadGraph" p44] [] p45) (.Tuple [.Constant (.str "graph") j6 p46, .Attribute (.Name "error" p47) "name" p48] k4 p49) (.Tuple [.Constant (.str "other") j7 p50] k5 p51) p52)) p53] "work" n (toldT (tells cT cS cG)) := by
  intro f c' s H Q tl act hc h
  have nd : tellN.Nodup := by decide +kernel
  let Z : Cx := (cxOf C8.CX0 X.prog X.w X.K X.mg X.base tellN x sg g cdg X.A X.stack s H C8.E0).nox
  have l0 := TS.l "work" (by simp)
  have l1 := TS.l "error" (by simp)
  have l2 := TS.l "found" (by simp)
  have l3 := TS.l "e" (by simp)
  have gB : Gl Z "BuildError" := TS.g "BuildError" (by simp)
  have gT : Gl Z "BadText" := TS.g "BadText" (by simp)
  have gS : Gl Z "BadSchema" := TS.g "BadSchema" (by simp)
  have gG : Gl Z "BadGraph" := TS.g "BadGraph" (by simp)
  have gI : Gl Z "isinstance" := TS.g "isinstance" (by simp)
  have v1 : Vis Z.env.scope "error" := .inl l1
  have v2 : Vis Z.env.scope "found" := .inl l2
  have isi : ∀ {q : Str} {D : Addr} {q1 q2 q3 q4 : Pos}, Gl Z q → X.mg q = some (.ref D) → (q == ("__debug__" : Str)) = false → PE Z (.Call (.Name "isinstance" q1) [.Name "error" q2, .Name q q3] [] q4) (tCB (rIsK Z.K) (L2.tCons (L2.tVar 1) (L2.tCons (L2.tC (.ref D)) L2.tNil))) := fun {q D q1 q2 q3 q4} hq hm hdb =>
    pe_callB (X := Z) call_isK gI TF.isi boot_isinstance (pa_cons (pe_var (i := 1) rfl v1) (pa_cons (pe_glob hq hm rfl hdb) pa_nil)) (by decide) (by decide)
  refine ⟨_, pss_cons (ps_set (X := Z) (i := 1) nd rfl (.inl l1) pe_non (by rfl) (.inr l1)) (pss_cons (ps_try_keep (X := Z) (i := 3) (c := .ref cB)
      (tb := fun W D σ H => ∃ Ech : XK, (∀ cls d σ' H', Ech cls d H' → W cls d σ' H') ∧ σ[0]? = some (some (.ref f)) ∧ H c' = some (LamX.CodeO c' n) ∧ tl Ech H fun v H1 => D.nx (σ.set 2 (some v)) H1)
      rfl rfl rfl nd rfl l3 ⟨gB, by decide, .inl TF.gB⟩ LamX.takes0 (fun W pn xe tk _ => ?_) (fun a oe cls d pn _ _ => pss_one (ps_set (i := 1) nd rfl (.inl l1) (pe_var (i := 3) rfl (.inl l3)) (by rfl) (.inr l1))))
    (pss_cons (ps_if (pt_cmpR L2.op_isN (pe_var (i := 1) rfl v1) pe_non (nomark _)) (pss_one (ps_ret (pe_tup (pa_cons pe_str (pa_cons (pe_var (i := 2) rfl v2) pa_nil))))) pss_nil)
    (pss_cons (ps_if (pt_val (isi gT TF.gT (by decide))) (pss_one (ps_ret (pe_tup (pa_cons pe_str (pa_cons (pe_kf (pe_var (i := 1) rfl v1)) pa_nil))))) pss_nil)
    (pss_cons (ps_if (pt_val (isi gS TF.gS (by decide))) (pss_one (ps_ret (pe_tup (pa_cons pe_str (pa_cons (pe_kf (pe_var (i := 1) rfl v1)) pa_nil))))) pss_nil)
    (pss_one (ps_ret (pe_ifExp (pt_val (isi gG TF.gG (by decide))) (pe_tup (pa_cons pe_str (pa_cons (pe_kf (pe_var (i := 1) rfl v1)) pa_nil))) (pe_tup (pa_cons pe_str pa_nil)))))))))
    , ?_⟩
  · refine ⟨fun pins s' σ H' D I h' => ?_⟩
    obtain ⟨Ech, hW, h1, h2, h3⟩ := h'
    have hp := act W pn xe Ech p5 p6 tk hW
    exact (pss_one (ps_set (pos := p7) (i := 2) nd rfl (.inl l2) hp (by rfl) (.inr l2))).run pins s' σ H' D I ⟨h1, h2, h3⟩
  · refine ⟨fun cls d H1 => toldX (tells cT cS cG) Q cls d H1, fun cls d σ1 H1 hx => ?_, rfl, hc, h _ _ (fun _ _ _ q => q) fun v H1 hv => ?_⟩
    · obtain ⟨e, dd, v, hm, rfl, rfl, hdd, hq⟩ := hx
      have hmem : e.1 ∈ [cT, cS, cG] := by
        simp only [tells, List.mem_cons, List.not_mem_nil, or_false] at hm
        rcases hm with rfl | rfl | rfl <;> simp
      obtain ⟨x1, x2, x3⟩ := TF.ex e.1 hmem
      refine ⟨true, x1, fun _ hl a ha => ?_, fun z => nomatch z⟩
      match σ1, hl with
      | [s0, s1, s2, s3], _ =>
        have nad : dd ≠ a := fun z => by rw [z, ha] at hdd; cases hdd
        have hdd' : upd H1 a (Ekp (.ref e.1) (some dd) a) dd = some (.xd [(e.2.1, v)]) := by rw [upd_ne nad]; exact hdd
        refine ⟨.ref a, rfl, ?_⟩
        refine ⟨_, rfl, rfl, _, rfl, ?_⟩
        have fin : ∀ p, upd H1 a (Ekp (.ref e.1) (some dd) a) p = none → Q (.ref p) (upd (upd H1 a (Ekp (.ref e.1) (some dd) a)) p (.tup [.str e.2.2, v])) := fun p hp => hq a p _ Ekp_ne ha hp
        simp only [tells, List.mem_cons, List.not_mem_nil, or_false] at hm
        rcases hm with rfl | rfl | rfl
        · refine ⟨_, rfl, a, cT, dd, .ref cT, .ref cT, true, rfl, x2, upd_same, ⟨_, hdd'⟩, fun _ z => z, kit_self, true, rfl, ?_⟩
          exact ⟨_, rfl, a, cT, dd, _, v, rfl, x3, TF.nT, upd_same, hdd', rfl, by show 2 ≤ sizeLine; rw [sizeLine_eq]; decide, fin⟩
        · refine ⟨_, rfl, a, cS, dd, .ref cT, .ref cT, false, rfl, x2, upd_same, ⟨_, hdd'⟩, fun _ z => z, TF.kST, false, rfl, ?_⟩
          refine ⟨_, rfl, a, cS, dd, .ref cS, .ref cS, true, rfl, x2, upd_same, ⟨_, hdd'⟩, fun _ z => z, kit_self, true, rfl, ?_⟩
          exact ⟨_, rfl, a, cS, dd, _, v, rfl, x3, TF.nS, upd_same, hdd', rfl, by show 2 ≤ sizeLine; rw [sizeLine_eq]; decide, fin⟩
        · refine ⟨_, rfl, a, cG, dd, .ref cT, .ref cT, false, rfl, x2, upd_same, ⟨_, hdd'⟩, fun _ z => z, TF.kGT, false, rfl, ?_⟩
          refine ⟨_, rfl, a, cG, dd, .ref cS, .ref cS, false, rfl, x2, upd_same, ⟨_, hdd'⟩, fun _ z => z, TF.kGS, false, rfl, ?_⟩
          refine ⟨_, rfl, a, cG, dd, .ref cG, .ref cG, true, rfl, x2, upd_same, ⟨_, hdd'⟩, fun _ z => z, kit_self, true, rfl, ?_⟩
          exact ⟨_, rfl, a, cG, dd, _, v, rfl, x3, TF.nG, upd_same, hdd', rfl, by show 2 ≤ sizeLine; rw [sizeLine_eq]; decide, fin⟩
    · exact ⟨_, rfl, rfl, _, rfl, _, rfl, by show 2 ≤ sizeLine; rw [sizeLine_eq]; decide, hv⟩
end DL
namespace DL
open PySem PySem.Spec PyProof.Rows L2
def entH (K : PySem.W.Frag) (T : List Addr) (a : Addr) (ob : Obj) (xs : List V) : Hp := fun b => if b ∈ T then some (.tbl #[]) else if b = a ∧ K.lookup a = none then some (.frz ob (.lst xs)) else none
def entF (K : PySem.W.Frag) (a : Addr) (ob : Obj) (xs : List V) : Hp := fun b => if b = a ∧ K.lookup a = none then some (.frz ob (.lst xs)) else none
theorem entH_tab {K : PySem.W.Frag} {T : List Addr} {a b : Addr} {ob : Obj} {xs : List V} (h : b ∈ T) : entH K T a ob xs b = some (.tbl #[]) := if_pos h
theorem entH_is {K : PySem.W.Frag} {T : List Addr} {a b : Addr} {ob : Obj} {xs : List V} {o : HO} (h : entH K T a ob xs b = some o) : (b ∈ T ∧ o = .tbl #[]) ∨ (b ∉ T ∧ b = a ∧ K.lookup a = none ∧ o = .frz ob (.lst xs)) := by
  unfold entH at h
  by_cases c : b ∈ T
  · rw [if_pos c] at h
    exact .inl ⟨c, (Option.some.inj h).symm⟩
  · rw [if_neg c] at h
    by_cases c2 : b = a ∧ K.lookup a = none
    · rw [if_pos c2] at h
      exact .inr ⟨c, c2.1, c2.2, (Option.some.inj h).symm⟩
    · rw [if_neg c2] at h
      cases h
theorem entF_is {K : PySem.W.Frag} {a b : Addr} {ob : Obj} {xs : List V} {o : HO} (h : entF K a ob xs b = some o) : b = a ∧ K.lookup a = none ∧ o = .frz ob (.lst xs) := by
  unfold entF at h
  by_cases c2 : b = a ∧ K.lookup a = none
  · rw [if_pos c2] at h
    exact ⟨c2.1, c2.2, (Option.some.inj h).symm⟩
  · rw [if_neg c2] at h
    cases h
def RunsAt (P : Program) (w : World) (K : PySem.W.Frag) (mg : Str → Option Value) (cs : List (Addr × Addr)) (fa a : Addr) (s₁ : Shared) (ns : List Int) : Prop :=
  ∀ (base : Heap) (H F : Hp), K.In base → base.Ns mainGlobals mg → (∀ p ∈ cs, LamX.TabB base mg p.1 p.2) → (∀ p ∈ cs, H p.2 = some (.tbl #[])) → Ex F H → (∀ p ∈ cs, F p.2 = none) → (∀ b ps, F b ≠ some (.tbl ps)) → SqL K F a (ns.map V.int) → Env0 P w K mg base callerA [] s₁ H →
    codeAny (model P w) callerA (.call (.ref fa) ⟨[.ref a], []⟩) (CR (L2.CX P w) [] P w H s₁ (fun v _ => v = .bl true) fun _ _ _ => False) s₁
theorem end_law {P : Program} {w : World} {K : PySem.W.Frag} {mg mb : Str → Option Value} {fa a : Addr} {cs : List (Addr × Addr)} {s₁ : Shared} {vs : List Value} {ns : List Int}
    (inK : K.In s₁.heap) (gl : s₁.heap.Ns mainGlobals mg) (bl : s₁.heap.Ns builtinsNs mb) (bb : ∀ x : Str, x ≠ "__name__" → mb x = bootBuiltins x) (nl : s₁.heap.NoLimit) (gn : s₁.gens = #[])
    (tE : ∀ p ∈ cs, s₁.heap.get? p.2 = some { cls := .none, data := .fields #[] }) (tN : ∀ p ∈ cs, K.lookup p.2 = none) (tC : ∀ p ∈ cs, PySem.W.CodeHd s₁.heap p.1 p.2)
    (bmain : ∃ (bm : Addr) (ob : Obj), mg "__builtins__" = some (.ref bm) ∧ bm ≠ builtinsNs ∧ s₁.heap.get? bm = some ob ∧ ob.cls = .type "module" ∧ ob.dict = some builtinsNs ∧ ob.data = .plain)
    (ha : s₁.heap.get? a = some { cls := .type "list", data := .seq vs.toArray }) (hi : IntsAre vs ns) (hl : ns.length ≤ sizeLine) (R : RunsAt P w K mg cs fa a s₁ ns) :
    codeAny (model P w) callerA (.call (.ref fa) ⟨[.ref a], []⟩) (fun r s' => r = .ok (.ret (.bool true)) ∧ OldK s₁.heap s'.heap ∧ s'.os = s₁.os ∧ AllBare s'.gens) s₁ := by
  have vals := vals_ints hi
  have lv := hi.length
  let T : List Addr := cs.map (·.2)
  let ob : Obj := { cls := .type "list", data := .seq vs.toArray }
  let H : Hp := entH K T a ob (ns.map V.int)
  let F : Hp := entF K a ob (ns.map V.int)
  have tT : ∀ b ∈ T, s₁.heap.get? b = some { cls := .none, data := .fields #[] } := fun b hb => by
    obtain ⟨p, hp, e⟩ := List.mem_map.mp hb
    exact e ▸ tE p hp
  have inT : ∀ p ∈ cs, p.2 ∈ T := fun p hp => List.mem_map.mpr ⟨p, hp, rfl⟩
  have aT : a ∉ T := fun z => by
    have q := tT a z
    rw [ha] at q
    have z' : Data.seq vs.toArray _ = Data.fields #[] := congrArg Obj.data (Option.some.inj q)
    cases z'
  have looks : ∀ {b : Addr} {o : Obj} {u : HO}, s₁.heap.get? b = some o → H b = some u → (o.data = .fields #[] ∧ b ∈ T) ∨ (o = ob ∧ b = a ∧ K.lookup a = none) := fun {b o u} e q => by
    rcases entH_is q with ⟨h1, _⟩ | ⟨_, h2, h3, _⟩
    · rw [tT b h1] at e
      cases e
      exact .inl ⟨rfl, h1⟩
    · rw [h2, ha] at e
      exact .inr ⟨(Option.some.inj e).symm, h2, h3⟩
  have free : ∀ {b : Addr} {o : Obj}, s₁.heap.get? b = some o → o.data ≠ .fields #[] → (∀ vs n, o.data ≠ .seq vs n) → H b = none := fun {b o} e h1 h2 => by
    cases q : H b with
    | none => rfl
    | some u =>
      rcases looks e q with ⟨z, _⟩ | ⟨z, _⟩
      · exact absurd z h1
      · exact absurd (by rw [z]) (h2 vs.toArray _)
  have dfree : ∀ {b : Addr} {o : Obj} {es : Array DictEntry} {n : Nat}, s₁.heap.get? b = some o → o.data = .dict es n → H b = none := fun {b o es n} e d => free e (by rw [d]; intro z; cases z) (by rw [d]; intro _ _ z; cases z)
  have nsIn : ∀ {b : Addr} {m : Str → Option Value}, s₁.heap.Ns b m → (hidT s₁.heap H).Ns b m := fun {b m} ⟨o, es, n, e, d, r⟩ => ⟨o, es, n, hidT_get e (dfree e d), d, r⟩
  have kB : K.In (hidT s₁.heap H) := fun b o e => hidT_get (inK b o e) (by
    cases q : H b with
    | none => rfl
    | some u =>
      rcases entH_is q with ⟨h1, _⟩ | ⟨_, h2, h3, _⟩
      · obtain ⟨p, hp, ep⟩ := List.mem_map.mp h1
        have := tN p hp
        rw [ep] at this
        rw [this] at e; cases e
      · rw [h2, h3] at e; cases e)
  have okH : HOk P w H s₁.heap := fun b u q => by
    rcases entH_is q with ⟨h1, rfl⟩ | ⟨_, rfl, _, rfl⟩
    · exact tT b h1
    · exact ⟨ha, by rw [List.length_map]; exact hl, vs, _, vals, ha⟩
  have tabs : ∀ p ∈ cs, LamX.TabB (hidT s₁.heap H) mg p.1 p.2 := fun p hp => by
    refine ⟨?_, ?_, fun z => ?_⟩
    · obtain ⟨o, us, file, tf, flags, tg, inF, text, tt, e1, r1, r2, r3, r4, r5, r6, r7, r8, hne⟩ := tC p hp
      refine ⟨o, us, file, tf, flags, tg, inF, text, tt, hidT_get e1 (free e1 (fun z => ?_) fun vs n z => ?_), r1, r2, r3, r4, r5, r6, r7, r8, hne⟩
      · rw [r2] at z
        cases z
        simp at r3
      · rw [r2] at z
        cases z
    · obtain ⟨bm, om, b1, b2, b3, b4, b5, b6⟩ := bmain
      have nG : bm ≠ mainGlobals := fun q => by
        obtain ⟨o, es, n, e, hd, _⟩ := gl
        rw [q, e] at b3
        cases b3
        rw [hd] at b6; cases b6
      have nP : bm ≠ p.2 := fun q => by
        rw [q, tE p hp] at b3
        cases b3; cases b6
      exact ⟨bm, om, b1, b2, nG, nP, hidT_get b3 (free b3 (by rw [b6]; intro z; cases z) (by rw [b6]; intro _ _ z; cases z)), b4, b5, b6⟩
    · obtain ⟨o, es, n, e, hd, _⟩ := gl
      rw [z, tE p hp] at e
      cases e; cases hd
  have md : L2.Mod K mg (hidT s₁.heap H) := ⟨kB, nsIn gl, ⟨mb, nsIn bl, bb⟩, let ⟨mc, h1, h2⟩ := nl; ⟨mc, nsIn h1, h2⟩⟩
  have env : Env0 P w K mg (hidT s₁.heap H) callerA [] s₁ H := ⟨rfl, md, fun b o e => of_hidT e, Nat.le_of_eq (hidT_size _ _), trivial, fun b hb => absurd (show b ∈ ([] : List Addr) from hb) (by simp), okH, .of_eq gn⟩
  have sq : SqL K F a (ns.map V.int) := by
    cases q : K.lookup a with
    | none => exact .inl (.inr ⟨ob, if_pos ⟨rfl, q⟩⟩)
    | some o =>
      have e := inK a o q
      rw [ha] at e
      cases e
      exact .inr ⟨_, vs.toArray, _, q, rfl, rfl, rfl, by rw [List.size_toArray, lv]; exact hl, by simpa using vals⟩
  have exF : Ex F H := fun b o e => by
    obtain ⟨rfl, h2, rfl⟩ := entF_is e
    exact (if_neg aT).trans (if_pos ⟨rfl, h2⟩)
  refine codeAny_mono (R _ H F kB (nsIn gl) tabs (fun p hp => entH_tab (inT p hp)) exF (fun p hp => ?_) (fun b ps z => ?_) sq env) fun r s' hr => ?_
  · cases q : F p.2 with
    | none => rfl
    | some o =>
      obtain ⟨e, _⟩ := entF_is q
      exact absurd (e ▸ inT p hp) aT
  · obtain ⟨_, _, e⟩ := entF_is z
    cases e
  · cases r with
    | error e =>
      obtain ⟨_, _, _, _, _, _, _, _, _, _, _, _, z⟩ := hr
      exact z.elim
    | ok fl =>
      cases fl with
      | next => exact False.elim hr
      | brk => exact False.elim hr
      | cont => exact False.elim hr
      | ret u =>
        obtain ⟨v, H', eos, bare, un, ok', ru, rfl⟩ := hr
        obtain rfl : u = Value.bool true := ru
        have stay : ∀ b o, b ∉ T → s₁.heap.get? b = some o → s'.heap.get? b = some o := fun b o nb e => by
          cases q : H b with
          | none => exact un.keep b o e q (fun z => absurd (show b ∈ ([] : List Addr) from z) (by simp)) (by simp)
          | some u =>
            rcases entH_is q with ⟨h1, _⟩ | ⟨_, _, _, rfl⟩
            · exact absurd h1 nb
            · have q2 := un.frzs b ob _ q
              obtain ⟨e1, _⟩ := okH b _ q
              obtain ⟨e2, _⟩ := ok' b _ q2
              rw [e] at e1; cases e1
              exact e2
        have grow : ∀ p ∈ cs, ∃ more : Array Value, s'.heap.get? p.2 = some { cls := .none, data := .fields more } := fun p hp => by
          obtain ⟨more, z⟩ := un.tbls p.2 #[] (entH_tab (inT p hp))
          exact ⟨_, ok' p.2 _ z⟩
        refine ⟨rfl, ⟨fun b o e => ?_, fun b o e => ?_⟩, eos, bare⟩
        · by_cases hb : b ∈ T
          · obtain ⟨p, hp, ep⟩ := List.mem_map.mp hb
            obtain ⟨more, hm⟩ := grow p hp
            rw [← ep] at e ⊢
            rw [tE p hp] at e
            cases e
            exact .inr (.inl ⟨((tC p hp).tab (tE p hp)).isCodeTable, rfl, #[], more, rfl, by rw [Array.empty_append]; exact hm⟩)
          · exact .inl (stay b o hb e)
        · by_cases hb : b ∈ T
          · obtain ⟨p, hp, ep⟩ := List.mem_map.mp hb
            obtain ⟨more, hm⟩ := grow p hp
            exact ep ▸ ⟨_, hm⟩
          · exact ⟨o, stay b o hb e⟩
theorem walk_end {l : PySem.W.OpenLaw} {n : Nat} {q : Program} {loose : List Str} {XP : (Str → Option Value) → Heap → Prop} {YP : World → Heap → Prop} {d : DefRec} (hn : l.most = some n) (hn2 : n ≤ sizeLine) (hdf : d.params.defaults = [])
    (F : ∀ (w : World) (mg : Str → Option Value) (fa : Addr) (h : Heap), YP w h → h.Ns mainGlobals mg → mg d.name = some (.ref fa) →
      ∃ (K : PySem.W.Frag) (cs : List (Addr × Addr)), K.In h ∧ (∀ p ∈ cs, h.get? p.2 = some { cls := .none, data := .fields #[] }) ∧ (∀ p ∈ cs, K.lookup p.2 = none) ∧ (∀ p ∈ cs, PySem.W.CodeHd h p.1 p.2) ∧ ∀ (a : Addr) (s₁ : Shared) (ns : List Int), ns.length ≤ n → RunsAt l.prog w K mg cs fa a s₁ ns) :
    PySem.W.WalkO q loose XP YP l.row.toRowW d [] (fun f vs => PySem.call f vs) := by
  refine Att.attach_callB hn hdf fun w s₀ s₁ mg mb fa o pm cd doc a vs ns G Y ho hd hcd hmg hobj hints hlen hbits hg => ?_
  obtain ⟨K, cs, inK, h1, h2, h3, R⟩ := F w mg fa _ Y G.T.g hmg
  exact end_law inK G.T.g G.T.b G.T.builtins G.T.nolimit hg h1 h2 h3 G.T.bmain hobj hints (Nat.le_trans hlen hn2) (R a s₁ ns hlen)
end DL
namespace DL
open PySem PySem.Spec PyProof.Rows L2
def nm? : Expr → Option (Str × Pos)
  | .Name x p => some (x, p)
  | _ => none
theorem nm_is {e : Expr} {x : Str} {p : Pos} (h : nm? e = some (x, p)) : e = .Name x p := by
  unfold nm? at h
  split at h
  · cases h; rfl
  · cases h
def call0? : Expr → Option (Expr × Pos)
  | .Call f [] [] p => some (f, p)
  | _ => none
theorem call0_is {e f : Expr} {p : Pos} (h : call0? e = some (f, p)) : e = .Call f [] [] p := by
  unfold call0? at h
  split at h
  · cases h; rfl
  · cases h
def call1? : Expr → Option (Expr × Expr × Pos)
  | .Call f [a] [] p => some (f, a, p)
  | _ => none
theorem call1_is {e f a : Expr} {p : Pos} (h : call1? e = some (f, a, p)) : e = .Call f [a] [] p := by
  unfold call1? at h
  split at h
  · cases h; rfl
  · cases h
def attr? : Expr → Option (Expr × Str × Pos)
  | .Attribute f a p => some (f, a, p)
  | _ => none
theorem attr_is {e f : Expr} {a : Str} {p : Pos} (h : attr? e = some (f, a, p)) : e = .Attribute f a p := by
  unfold attr? at h
  split at h
  · cases h; rfl
  · cases h
def txt? : Expr → Option (Str × Pos)
  | .Constant (.str s) 0 p => some (s, p)
  | _ => none
theorem txt_is {e : Expr} {s : Str} {p : Pos} (h : txt? e = some (s, p)) : e = .Constant (.str s) 0 p := by
  unfold txt? at h
  split at h
  · cases h; rfl
  · cases h
def rows? : FuncBody → Option (Expr × Pos × Expr × Expr × Pos)
  | .stmts [.Expr a p, .Assign [b] c q] => some (a, p, b, c, q)
  | _ => none
theorem rows_is {f : FuncBody} {a b c : Expr} {p q : Pos} (h : rows? f = some (a, p, b, c, q)) : f = .stmts [.Expr a p, .Assign [b] c q] := by
  unfold rows? at h
  split at h
  · cases h; rfl
  · cases h
def eBody? (b : FuncBody) : Option (List Str × Str × List Pos × Bool) :=
  (rows? b).bind fun (a, q6, b1, c, q10) => (call1? a).bind fun (a1, m, q5) => (attr? a1).bind fun (a2, i, q3) => (call0? a2).bind fun (a3, q2) => (nm? a3).bind fun (s, q1) => (txt? m).bind fun (msg, q4) =>
    (attr? b1).bind fun (b2, f, q8) => (nm? b2).bind fun (se, q7) => (nm? c).bind fun (g, q9) => some ([s, i, se, f, g], msg, [q1, q2, q3, q4, q5, q6, q7, q8, q9, q10], (q3.endLine == q5.line))
theorem eBody_is {b : FuncBody} {fld msg : Str} {ps : List Pos} (h : eBody? b = some ([("super" : Str), "__init__", "self", fld, fld], msg, ps, true)) : ∃ q1 q2 q3 q4 q5 q6 q7 q8 q9 q10, b = .stmts (PySem.DLE.eB fld msg q1 q2 q3 q4 q5 q6 q7 q8 q9 q10) ∧ (q3.endLine == q5.line) = true := by
  unfold eBody? at h
  simp only [Option.bind_eq_some_iff, Prod.exists] at h
  obtain ⟨a, q6, b1, c, q10, h1, a1, m, q5, h2, a2, i, q3, h3, a3, q2, h4, s, q1, h5, msg', q4, h6, b2, f, q8, h7, se, q7, h8, g, q9, h9, e⟩ := h
  have e' := Option.some.inj e
  simp only [Prod.mk.injEq, List.cons.injEq] at e'
  obtain ⟨⟨rfl, rfl, rfl, rfl, rfl, _⟩, rfl, _, el⟩ := e'
  refine ⟨q1, q2, q3, q4, q5, q6, q7, q8, q9, q10, ?_, el⟩
  rw [rows_is h1, call1_is h2, attr_is h3, call0_is h4, nm_is h5, txt_is h6, attr_is h7, nm_is h8, nm_is h9] <;> rfl
def eArgs? : Arguments → Option (Str × Pos × Str × Pos)
  | ⟨[], [⟨a, none, p⟩, ⟨b, none, q⟩], none, [], [], none, []⟩ => some (a, p, b, q)
  | _ => none
theorem eArgs_is {a : Arguments} {x y : Str} {p q : Pos} (h : eArgs? a = some (x, p, y, q)) : a = ⟨[], [⟨x, none, p⟩, ⟨y, none, q⟩], none, [], [], none, []⟩ := by
  unfold eArgs? at h
  split at h
  · cases h; rfl
  · cases h
def cellB (K : PySem.W.Frag) (cc C : Addr) : Bool := match K.lookup cc with
  | some ⟨_, _, .cell (some (.ref D)), _⟩ => decide (D = C)
  | _ => false
theorem cellB_ok {K : PySem.W.Frag} {cc C : Addr} (h : cellB K cc C = true) : ∃ cl cld csl, K.lookup cc = some ⟨cl, cld, .cell (some (.ref C)), csl⟩ := by
  unfold cellB at h
  split at h
  · rename_i q
    rw [of_decide_eq_true h] at q
    exact ⟨_, _, _, q⟩
  · cases h
def fileB (K : PySem.W.Frag) (file : Str) (cda : Addr) : Bool := match K.lookup cda with
  | some ⟨_, _, .fields vs, _⟩ => (match (vs[2]? : Option Value) with
    | some (Value.str f _) => file == f
    | _ => false)
  | _ => false
theorem fileB_ok {K : PySem.W.Frag} {cda : Addr} {file : Str} (h : fileB K file cda = true) : ∃ ccl cdd vs ccs f tf, K.lookup cda = some ⟨ccl, cdd, .fields vs, ccs⟩ ∧ vs[2]? = some (.str f tf) ∧ (file == f) = true := by
  unfold fileB at h
  split at h
  · rename_i q
    split at h
    · rename_i q2
      exact ⟨_, _, _, _, _, _, q, q2, h⟩
    · cases h
  · cases h
def eFnB (K : PySem.W.Frag) (file fld : Str) (C fI : Addr) : Bool := match K.lookup fI with
  | some ⟨_, _, .func ⟨n, q, ar, b, sc, gl, [(cn, cc)], .none, .none, _, _, _, .ref cda, _, bl⟩, _⟩ =>
    decide (n = "__init__") && (decide (sc = PySem.DLE.eS fld) && (decide (gl = mainGlobals) && (decide (bl = builtinsNs) && (decide (cn = "__class__") && (PySem.W.codeIn K (.ref cda) q && (cellB K cc C && (fileB K file cda &&
      ((match eArgs? ar with
        | some (x, _, y, _) => decide (x = "self") && decide (y = fld)
        | _ => false) && (match eBody? b with
        | some (xs, _, _, l) => decide (xs = [("super" : Str), "__init__", "self", fld, fld]) && l
        | _ => false)))))))))
  | _ => false
theorem eFnB_ok {K : PySem.W.Frag} {P : Program} {fld : Str} {C fI : Addr} (h : eFnB K P.main.file fld C fI = true) :
    ∃ (oc : Value) (od : Option Addr) (doc pm : Value) (an : Option Addr) (ct : Value) (osl : Array (Option Value)) (msg q : Str) (cc cda : Addr) (p1 p2 q1 q2 q3 q4 q5 q6 q7 q8 q9 q10 : Pos),
    K.lookup fI = some ⟨oc, od, .func (PySem.W.ksFn "__init__" q (PySem.DLE.eA fld p1 p2) (PySem.DLE.eB fld msg q1 q2 q3 q4 q5 q6 q7 q8 q9 q10) (PySem.DLE.eS fld) .none .none doc pm an (.ref cda) ct cc), osl⟩ ∧ PySem.W.codeIn K (.ref cda) q = true ∧
    (q3.endLine == q5.line) = true ∧ (∃ cl cld csl, K.lookup cc = some ⟨cl, cld, .cell (some (.ref C)), csl⟩) ∧
    ∃ ccl cdd vs ccs file tf, K.lookup cda = some ⟨ccl, cdd, .fields vs, ccs⟩ ∧ vs[2]? = some (.str file tf) ∧ ((P.main.file : Str) == file) = true := by
  unfold eFnB at h
  split at h
  · rename_i oc od n q ar b sc gl cn cc doc pm an cda ct bl osl hq
    obtain ⟨h1, h⟩ := He.ba h
    obtain ⟨h2, h⟩ := He.ba h
    obtain ⟨h3, h⟩ := He.ba h
    obtain ⟨h4, h⟩ := He.ba h
    obtain ⟨h5, h⟩ := He.ba h
    obtain ⟨h6, h⟩ := He.ba h
    obtain ⟨h7, h⟩ := He.ba h
    obtain ⟨h8, h⟩ := He.ba h
    obtain ⟨h9, h10⟩ := He.ba h
    split at h9
    · rename_i x p1 y p2 ha
      obtain ⟨x1, x2⟩ := He.ba h9
      split at h10
      · rename_i xs msg ps l hb
        obtain ⟨y1, y2⟩ := He.ba h10
        rw [of_decide_eq_true y1, y2] at hb
        obtain ⟨q1, q2, q3, q4, q5, q6, q7, q8, q9, q10, e, el⟩ := eBody_is hb
        have ea := eArgs_is ha
        rw [of_decide_eq_true x1, of_decide_eq_true x2] at ea
        rw [of_decide_eq_true h1, of_decide_eq_true h2, of_decide_eq_true h3, of_decide_eq_true h4, of_decide_eq_true h5, ea, e] at hq
        exact ⟨oc, od, doc, pm, an, ct, osl, msg, q, cc, cda, p1, p2, q1, q2, q3, q4, q5, q6, q7, q8, q9, q10, hq, h6, el, cellB_ok h7, fileB_ok h8⟩
      · cases h10
    · cases h9
  · cases h
def eClB (K : PySem.W.Frag) (C : Addr) : Bool := match K.lookup C with
  | some ⟨.type "type", _, .cls cd, sl⟩ => (match cd.mro, sl.toList with
    | .ref C' :: bm, [_, _, _, _, some (.builtin n), _] => decide (C' = C) && (decide (n = "ValueError.__new__") && (!cd.hasDel && (cd.hasDict && PySem.HandSPX.refsVE bm)))
    | _, _ => false)
  | _ => false
theorem eClB_ok {K : PySem.W.Frag} {C : Addr} (h : eClB K C = true) : ∃ nm q N bs bm sn sub ab col dd k0 k1 k2 k3 k5, K.lookup C = some (excClassObj nm q C N bs bm true sn sub ab col dd k0 k1 k2 k3 k5 "ValueError.__new__") ∧ PySem.HandSPX.refsVE bm = true := by
  unfold eClB at h
  split at h
  · rename_i dd cd sl ho
    split at h
    · rename_i C' bm k0 k1 k2 k3 n k5 hm hs
      obtain ⟨h1, h⟩ := He.ba h
      obtain ⟨h2, h⟩ := He.ba h
      obtain ⟨h3, h⟩ := He.ba h
      obtain ⟨h4, h5⟩ := He.ba h
      obtain ⟨nm, bs, mro, ns, qn, hd, sn, sub, ab, col, del⟩ := cd
      dsimp only at hm h3 h4
      have hdel : del = false := by simpa using h3
      rw [of_decide_eq_true h1] at hm
      subst hm hdel h4
      have hsl : sl = #[k0, k1, k2, k3, some (.builtin n), k5] := by
        obtain ⟨l⟩ := sl
        simp only at hs
        rw [hs]
      rw [of_decide_eq_true h2] at hsl
      subst hsl
      exact ⟨nm, qn, ns, bs, bm, sn, sub, ab, col, dd, k0, k1, k2, k3, k5, ho, h5⟩
    · cases h
  · cases h
def errB (file cn fld : Str) (K : PySem.W.Frag) : Bool :=
  let C := He.ga K cn
  let fI := He.ma K C "__init__"
  eClB K C && (decide (PySem.W.findIn K (.ref C) "__setattr__" = some (some (.builtin "object.__setattr__"))) && (decide (PySem.W.findIn K (.ref C) fld = some none) && (decide (PySem.W.findIn K (.ref C) "__init__" = some (some (.ref fI))) &&
    (decide (PySem.W.typeIn K (.ref fI) = some (.type "function")) && (PySem.W.keepIn K (.ref C) && (decide (PySem.W.subIn K (.ref C) (.type "BaseException") = some true) && (decide (PySem.W.subIn K (.ref C) (.type "ValueError") = some true) &&
    (decide (PySem.W.typeIn K (.ref C) = some (.type "type")) && (decide (PySem.W.nsIn K cStatics "thirdparty.any" = some none) && (decide (PySem.W.mroIn K C (.ref C) = some true) && (decide (PySem.W.ks_superIn K C C "__init__" = some (some (.builtin "ValueError.__init__"))) &&
    eFnB K file fld C fI)))))))))))
theorem errB_ok {K : PySem.W.Frag} {P : Program} {mg : Str → Option Value} {cn fld : Str} (h : errB P.main.file cn fld K = true) (g1 : mg cn = some (.ref (He.ga K cn))) (g2 : mg "super" = none) (top : (P.main.scope.names.lookup ("super" : Str)).isSome = false)
    (hf : fld = "row" ∨ fld = "name" ∨ fld = "index" ∨ fld = "at") : ∃ fI, PySem.DLE.ErrTxt P K mg (He.ga K cn) fI cn fld := by
  unfold errB at h
  obtain ⟨h1, h⟩ := He.ba h
  obtain ⟨h2, h⟩ := He.ba h
  obtain ⟨h3, h⟩ := He.ba h
  obtain ⟨h4, h⟩ := He.ba h
  obtain ⟨h5, h⟩ := He.ba h
  obtain ⟨h6, h⟩ := He.ba h
  obtain ⟨h7, h⟩ := He.ba h
  obtain ⟨h8, h⟩ := He.ba h
  obtain ⟨h9, h⟩ := He.ba h
  obtain ⟨h10, h⟩ := He.ba h
  obtain ⟨h11, h⟩ := He.ba h
  obtain ⟨h12, h13⟩ := He.ba h
  exact ⟨_, g1, g2, eClB_ok h1, of_decide_eq_true h2, of_decide_eq_true h3, of_decide_eq_true h4, of_decide_eq_true h5, h6, of_decide_eq_true h7, of_decide_eq_true h8, of_decide_eq_true h9, of_decide_eq_true h10, of_decide_eq_true h11, of_decide_eq_true h12, top, hf, eFnB_ok h13⟩
def isEB (K : PySem.W.Frag) (D : Addr) : Bool :=
  xfB K D && (decide (PySem.W.findIn K (.ref D) "__class__" = some (some (.builtin "object.__class__"))) && (decide (PySem.W.specialIn K (.builtin "object.__class__") "__get__" = some (some (.builtin "getset_descriptor.__get__"))) && (decide (PySem.W.takesIn K (.builtin "object.__class__") = some true) && decide (PySem.W.mroIn K D (.type "object") = some true))))
theorem isEB_ok {K : PySem.W.Frag} {D : Addr} (h : isEB K D = true) : ExcC K D ∧ XfC K D := by
  unfold isEB at h
  obtain ⟨h1, h⟩ := He.ba h
  obtain ⟨h2, h⟩ := He.ba h
  obtain ⟨h3, h⟩ := He.ba h
  obtain ⟨h4, h5⟩ := He.ba h
  have x := xfB_ok h1
  exact ⟨⟨x.ga, x.gg, x.exC, x.hdC, of_decide_eq_true h2, of_decide_eq_true h3, of_decide_eq_true h4, of_decide_eq_true h5⟩, x⟩
def tellB (K : PySem.W.Frag) : Bool :=
  let B := He.ga K "BuildError"
  let T := He.ga K "BadText"
  let S := He.ga K "BadSchema"
  let G := He.ga K "BadGraph"
  decide (PySem.W.exmOne K (.ref T) (.ref B) = some true) && (decide (PySem.W.exmOne K (.ref S) (.ref B) = some true) && (decide (PySem.W.exmOne K (.ref G) (.ref B) = some true) && (isEB K T && (isEB K S && (isEB K G &&
    (decide (PySem.W.findIn K (.ref T) "row" = some none) && (decide (PySem.W.findIn K (.ref S) "name" = some none) && (decide (PySem.W.findIn K (.ref G) "name" = some none) &&
    (decide (PySem.W.kitOne K (.ref S) (.ref T) = some false) && (decide (PySem.W.kitOne K (.ref G) (.ref T) = some false) && decide (PySem.W.kitOne K (.ref G) (.ref S) = some false)))))))))))
theorem tellB_ok {K : PySem.W.Frag} {mg : Str → Option Value} (h : tellB K = true) (gB : mg "BuildError" = some (.ref (He.ga K "BuildError"))) (gT : mg "BadText" = some (.ref (He.ga K "BadText"))) (gS : mg "BadSchema" = some (.ref (He.ga K "BadSchema")))
    (gG : mg "BadGraph" = some (.ref (He.ga K "BadGraph"))) (isi : mg "isinstance" = none) : TellF K mg (He.ga K "BuildError") (He.ga K "BadText") (He.ga K "BadSchema") (He.ga K "BadGraph") := by
  unfold tellB at h
  obtain ⟨h1, h⟩ := He.ba h
  obtain ⟨h2, h⟩ := He.ba h
  obtain ⟨h3, h⟩ := He.ba h
  obtain ⟨h4, h⟩ := He.ba h
  obtain ⟨h5, h⟩ := He.ba h
  obtain ⟨h6, h⟩ := He.ba h
  obtain ⟨h7, h⟩ := He.ba h
  obtain ⟨h8, h⟩ := He.ba h
  obtain ⟨h9, h⟩ := He.ba h
  obtain ⟨h10, h⟩ := He.ba h
  obtain ⟨h11, h12⟩ := He.ba h
  refine ⟨gB, gT, gS, gG, isi, fun D hD => ?_, of_decide_eq_true h7, of_decide_eq_true h8, of_decide_eq_true h9, of_decide_eq_true h10, of_decide_eq_true h11, of_decide_eq_true h12⟩
  simp only [List.mem_cons, List.not_mem_nil, or_false] at hD
  rcases hD with rfl | rfl | rfl
  · exact ⟨of_decide_eq_true h1, isEB_ok h4⟩
  · exact ⟨of_decide_eq_true h2, isEB_ok h5⟩
  · exact ⟨of_decide_eq_true h3, isEB_ok h6⟩
theorem gt_of {K : PySem.W.Frag} {mg : Str → Option Value} {x : Str} {ss : List Str} (h : He.tupB K x (ss.map He.Dv.str) = true) (g : mg x = some (.ref (He.ga K x))) : GT K mg x ss := by
  rcases He.tupB_ok h (fun _ => none) with z | ⟨o, its, n, q, q1, q2, q3, q4⟩
  · rcases z with ⟨_, z⟩ | ⟨_, z⟩ <;> cases z
  · refine ⟨_, o, its, n, g, q, q1, q2, q3, ?_⟩
    rw [List.map_map] at q4
    exact q4
theorem Fun.ofD {K : PySem.W.Frag} {x qual : Str} {st : Stmt} {f : Addr} {fd : FuncData} (F : FunD K x qual (defArgs st) (defBody st) (defScope st) [] [] f fd) : Fun K x qual st f fd := by
  obtain ⟨oc, od, dV, kV, doc, pm, an, cdv, ct, osl, e, lk, hcd, hD, _⟩ := F.ex
  rcases hD with ⟨_, rfl⟩ | ⟨z, _⟩
  · exact ⟨⟨oc, od, kV, doc, pm, an, cdv, ct, osl, e, lk, hcd⟩, F.kp⟩
  · exact absurd rfl z
theorem DefP.of {K : PySem.W.Frag} {mg : Str → Option Value} {x : Str} {st : Stmt} {ps : List Str} (F : ∃ fd, FunD K x x (defArgs st) (defBody st) (defScope st) [] [] (He.ga K x) fd) (g : mg x = some (.ref (He.ga K x)))
    (hb : ∀ (kV doc pm : Value) (an : Option Addr) (cdv ct : Value) (us : List Value), us.length = ps.length → bindArgs (PySem.W.fnOf x x (defArgs st) (defBody st) (defScope st) .none kV doc pm an cdv ct) ⟨us, []⟩ = pure (ps.zip us)) : DefP K mg x st ps := by
  obtain ⟨fd, F⟩ := F
  exact ⟨_, fd, Fun.ofD F, g, F.kp, FunD.bindsN F hb⟩
end DL
namespace DL
open PySem PySem.Spec PyProof.Rows L2
def asY (g : Addr → Option Obj) (n : Nat) : List Addr := cStatics :: He.asD g n
def obsY (n : Nat) (fa : List He.Fa) (fn : List He.DefD) (tf : List He.Defn) (ex : PySem.W.Frag → Bool) (g : Addr → Option Obj) : He.AlX := (He.obsT fa fn [] (He.frT g (asY g n)), ex (He.frT g (asY g n)) && He.tabsB g tf (He.frT g (asY g n)))
theorem saysY_of {n : Nat} {fa : List He.Fa} {fn : List He.DefD} {tf : List He.Defn} {ex : PySem.W.Frag → Bool} {w : World} {h : Heap} (e : obsY n fa fn tf ex h.get? = He.valX fn [] w) : He.SaysX fa fn [] tf ex w h (He.frT h.get? (asY h.get? n)) := by
  have e1 : He.obsT fa fn [] (He.frT h.get? (asY h.get? n)) = He.valT fn [] w := congrArg (fun z : He.AlX => z.1) e
  have e2 : (ex (He.frT h.get? (asY h.get? n)) && He.tabsB h.get? tf (He.frT h.get? (asY h.get? n))) = true := congrArg (fun z : He.AlX => z.2) e
  obtain ⟨h1, h2⟩ := He.ba e2
  have key : ∀ p ∈ tf, PySem.W.codeHdIn (He.frT h.get? (asY h.get? n)) (He.cT (He.frT h.get? (asY h.get? n)) p).1 (He.cT (He.frT h.get? (asY h.get? n)) p).2 = true ∧ ∃ o, h.get? (He.cT (He.frT h.get? (asY h.get? n)) p).2 = some o ∧ He.emptyTab o = true := fun p hp => by
    obtain ⟨h3, h4⟩ := He.ba (List.all_eq_true.mp h2 p hp)
    refine ⟨h3, ?_⟩
    split at h4
    · rename_i o q
      exact ⟨o, q, h4⟩
    · cases h4
  exact ⟨e1, h1, fun p hp => (key p hp).1, fun p hp => by
    obtain ⟨_, o, q, z⟩ := key p hp
    exact He.frT_none q z, fun p hp => by
    obtain ⟨_, o, q, z⟩ := key p hp
    rw [q, He.emptyTab_eq z]⟩
def hookY (n : Nat) (fa : List He.Fa) (fn : List He.DefD) (tf : List He.Defn) (ex : PySem.W.Frag → Bool) : PySem.W.Hook where
  α := He.AlX
  obs := fun s => obsY n fa fn tf ex s.heap.get?
  val := fun w => He.valX fn [] w
  says := fun w h => ∃ K : PySem.W.Frag, K.In h ∧ He.SaysX fa fn [] tf ex w h K
  of := fun _ _ e => ⟨_, He.frT_in, saysY_of e⟩
  keeps := fun _ _ _ ⟨K, hK, c⟩ k => ⟨K, PySem.W.Frag.In.keeps hK k, ⟨c.t, c.more, c.hd, c.out, fun p hp => k _ _ (c.empty p hp)⟩⟩
theorem obsY_eq {n : Nat} {fa : List He.Fa} {fn : List He.DefD} {tf : List He.Defn} {ex : PySem.W.Frag → Bool} {g : Addr → Option Obj} {s : Shared} (h : ∀ a, g a = s.heap.get? a) : obsY n fa fn tf ex g = (hookY n fa fn tf ex).obs s := by
  have e : g = s.heap.get? := funext h
  rw [e] <;> rfl
end DL
namespace DL
open PySem PySem.Spec PyProof.Rows L2
section
variable {X : Cx} {E : XK} {o e i : Expr} {apos pos : Pos}
@[simp ↓] def dIns (s : Nat) (ti te : TD) : TD := fun ρ k x => dOwn s ρ fun _ => ti ρ (fun r ρ1 => ∃ z, r = .d (.int z) ∧ te ρ1 (fun r2 ρ2 => frz ρ2 r2 fun d ρ3 => dOwn s ρ3 fun xs => xs.length < 16777216 ∧ 0 ≤ z ∧ z < 2 ^ 63 ∧ k (.d .non) (ρ3.set s (.o (xs.take z.toNat ++ [d] ++ xs.drop z.toNat)))) x) x
theorem de_ins {s : Nat} {ti te : TD} (ho : PE X o (tVar s)) (hi : DE X E i ti) (he : DE X E e te) (hbase : attributeBase o "insert" X.env (eval o X.env) = eval o X.env := by rfl)
    (hfew : ((backTo pos (starEach (i :: [e]) X.env)).all (fun x => !x.1) && (backToKw pos (keywordEach [] X.env)).all (fun x => x.1.isSome)
      && decide ((i :: [e]).length + ([] : List Keyword).length + (if ([] : List Keyword).isEmpty then 0 else 1) < 30)) = true := by rfl)
    (hline : (apos.endLine == pos.line) = true := by rfl) (hs : starEach (i :: [e]) X.env = (false, eval i X.env) :: starEach [e] X.env := by rfl) (hs2 : starEach (e :: []) X.env = (false, eval e X.env) :: starEach [] X.env := by rfl) (hplain : (backTo pos (starEach [e] X.env)).any (·.1) = false := by rfl) :
    DE X E (.Call (.Attribute o "insert" apos) [i, e] [] pos) (dIns s ti te) :=
  de_of (pe_bm PySem.F.plainAttrs_list PySem.F.slot_list_insert PySem.F.type_list_insert mt_insert ho (pa_cons hi (pa_cons he pa_nil hs2) hs) hbase hfew hline hs hplain) fun B F ρ σ H k x Q S q n m => by
    obtain ⟨xs0, h0, q⟩ := dOwn_ok q
    obtain ⟨p, vs0, hv, hH, _, _, _, _⟩ := S.own h0
    refine ⟨_, hv, .inl ⟨rfl, vs0, SqL.of hH⟩, B, F, ρ, _, x, S, q, fun r ρ1 F1 v H1 ⟨z, ez, q1⟩ e1 S1 r1 => ?_, m⟩
    subst ez
    cases (show Rp X.K B.rs F1 v (.int z) from r1)
    refine ⟨B, F1, ρ1, _, x, S1, q1, fun r2 ρ2 F2 w H2 q2 e2 S2 rw2 => ?_, m.mono e1⟩
    obtain ⟨d, ρ3, F3, q3, e3, S3, r3⟩ := Rv.frz S2 rw2 q2
    obtain ⟨xs, h3, hl, hz0, hz1, q4⟩ := dOwn_ok q3
    obtain ⟨p', vs, hv', hH', rl, hF, h0', hh⟩ := S3.own h3
    rw [hv] at hv'
    cases hv'
    refine ⟨p, vs, z, w, rfl, rfl, hH', by rw [rl.length, sizeLine_eq]; exact hl, hz0, hz1, ?_⟩
    exact n _ _ _ _ _ q4 ((e1.tr e2).tr e3) (S3.writeO s h3 hv (((rl.take z.toNat).append (.cons r3 .nil)).append (rl.drop z.toNat)) hF h0' hh) Rp.non
@[simp ↓] def dPopAt (s : Nat) (ti : TD) : TD := fun ρ k x => dOwn s ρ fun _ => ti ρ (fun r ρ1 => ∃ z, r = .d (.int z) ∧ dOwn s ρ1 fun xs => ∃ j y, 0 ≤ z ∧ z < 2 ^ 63 ∧ seqIndex? z xs.length = some j ∧ xs[j]? = some y ∧ k (.d y) (ρ1.set s (.o (xs.eraseIdx j)))) x
theorem de_popAt {s : Nat} {ti : TD} (ho : PE X o (tVar s)) (hi : DE X E i ti) (hbase : attributeBase o "pop" X.env (eval o X.env) = eval o X.env := by rfl)
    (hfew : ((backTo pos (starEach (i :: []) X.env)).all (fun x => !x.1) && (backToKw pos (keywordEach [] X.env)).all (fun x => x.1.isSome)
      && decide ((i :: ([] : List Expr)).length + ([] : List Keyword).length + (if ([] : List Keyword).isEmpty then 0 else 1) < 30)) = true := by rfl)
    (hline : (apos.endLine == pos.line) = true := by rfl) (hs : starEach (i :: []) X.env = (false, eval i X.env) :: starEach [] X.env := by rfl) (hplain : (backTo pos (starEach [] X.env)).any (·.1) = false := by rfl) :
    DE X E (.Call (.Attribute o "pop" apos) [i] [] pos) (dPopAt s ti) :=
  de_of (pe_bm PySem.F.plainAttrs_list PySem.F.slot_list_pop PySem.F.type_list_pop mt_popAt ho (pa_cons hi pa_nil hs) hbase hfew hline hs hplain) fun B F ρ σ H k x Q S q n m => by
    obtain ⟨xs0, h0, q⟩ := dOwn_ok q
    obtain ⟨p, vs0, hv, hH, _, _, _, _⟩ := S.own h0
    refine ⟨_, hv, .inl ⟨rfl, vs0, SqL.of hH⟩, B, F, ρ, _, x, S, q, fun r ρ1 F1 v H1 ⟨z, ez, q1⟩ e1 S1 r1 => ?_, m⟩
    subst ez
    cases (show Rp X.K B.rs F1 v (.int z) from r1)
    obtain ⟨xs, h3, j, y, hz0, hz1, hj, hy, q4⟩ := dOwn_ok q1
    obtain ⟨p', vs, hv', hH', rl, hF, h0', hh⟩ := S1.own h3
    rw [hv] at hv'
    cases hv'
    obtain ⟨u, hu, ru⟩ := rl.get hy
    refine ⟨p, vs, z, j, u, rfl, rfl, hH', by omega, hz1, by rw [rl.length]; exact hj, hu, ?_⟩
    exact n _ _ _ _ _ q4 e1 (S1.writeO s h3 hv (rl.eraseIdx j) hF h0' hh) ru
end
end DL
namespace DL
open PySem PySem.Spec PyProof.Rows L2
def eqOk : Nat → D → Bool
  | _, .non => true
  | _, .bl _ => true
  | _, .int _ => true
  | _, .str _ => true
  | n + 1, .tup ds => ds.all (eqOk n)
  | _, _ => false
theorem tupE {K : PySem.W.Frag} {rs : Rs} {F : Hp} {v : V} {ds : List D} (h : Rp K rs F v (.tup ds)) : ∃ a xs, v = .ref a ∧ SqT K F a xs ∧ RpL K rs F xs ds := by
  cases h with
  | tup h1 h2 => exact ⟨_, _, rfl, h1, h2⟩
section
variable {X : Cx} {pins : List (Addr × Obj)} {σ : L2.St} {H F : Hp} {s : Shared} {rs : Rs}
theorem tupT_run (I : Inv X pins σ H s) (e : Ex F H) {A : Around} (hu : A.units < cLine) {ds : List D} {x y : V} {v u : Value} (ih : ∀ d ∈ ds, ∀ x y v u, Rp X.K rs F x d → Rp X.K rs F y d → RelV x v → RelV y u → SeqAt.EqP X.prog X.w A.in1 s v u true)
    (hx : Rp X.K rs F x (.tup ds)) (hy : Rp X.K rs F y (.tup ds)) (rx : RelV x v) (ry : RelV y u) (E Q : Value → Shared → Prop) (q : Q (.bool true) s) : wpAny (model X.prog X.w) A (richCompare .Eq v u) Q E s := by
  obtain ⟨a, xs, rfl, ha, ra⟩ := tupE hx
  obtain ⟨b, ys, rfl, hb, rb⟩ := tupE hy
  cases (show v = Value.ref a from rx)
  cases (show u = Value.ref b from ry)
  obtain ⟨its, r1, t1, z1⟩ := I.tuple (exT e ha)
  obtain ⟨its2, r2, t2, z2⟩ := I.tuple (exT e hb)
  have hsz : its.toArray.size = its2.toArray.size := by rw [List.size_toArray, List.size_toArray, ← r1.length, ← r2.length, ra.length, rb.length]
  refine GQ.rc_tupG hsz hu (fun _ s' => s' = s) t1 t2 (fun i h1 h2 s' hs => ?_) (fun s' hs => hs ▸ q) rfl
  subst hs
  have l1 : i < its.length := by simpa using h1
  have l2 : i < its2.length := by simpa using h2
  have lx : i < xs.length := r1.length ▸ l1
  have ly : i < ys.length := r2.length ▸ l2
  have ld : i < ds.length := ra.length ▸ lx
  obtain ⟨vx, e1, p1⟩ := ra.get (List.getElem?_eq_getElem ld)
  obtain ⟨vy, e2, p2⟩ := rb.get (List.getElem?_eq_getElem ld)
  obtain ⟨u1, f1, w1⟩ := r1.get e1
  obtain ⟨u2, f2, w2⟩ := r2.get e2
  have g1 : its.toArray[i] = u1 := by
    have := List.getElem?_eq_getElem l1
    rw [this] at f1
    simpa using Option.some.inj f1
  have g2 : its2.toArray[i] = u2 := by
    have := List.getElem?_eq_getElem l2
    rw [this] at f2
    simpa using Option.some.inj f2
  rw [g1, g2]
  exact ih _ (List.getElem_mem ld) _ _ _ _ p1 p2 w1 w2 _ _ ⟨rfl, rfl⟩
theorem eqT_run (I : Inv X pins σ H s) (e : Ex F H) : ∀ (n : Nat) (A : Around), A.units + n < cLine → ∀ (d : D) (x y : V) (v u : Value), eqOk n d = true → Rp X.K rs F x d → Rp X.K rs F y d → RelV x v → RelV y u → SeqAt.EqP X.prog X.w A s v u true := by
  intro n
  induction n with
  | zero =>
    intro A hu d x y v u hd hx hy rx ry
    cases d with
    | non => cases hx; cases hy; exact (SeqAt.EqAt.eqP (eqAt_same rx ry rfl))
    | bl b => cases hx; cases hy; exact (SeqAt.EqAt.eqP (eqAt_same rx ry rfl))
    | int i => cases hx; cases hy; exact (SeqAt.EqAt.eqP (eqAt_same rx ry rfl))
    | str t => cases hx; cases hy; exact (SeqAt.EqAt.eqP (eqAt_same rx ry rfl))
    | _ => cases hd
  | succ n ih =>
    intro A hu d x y v u hd hx hy rx ry
    cases d with
    | non => cases hx; cases hy; exact (SeqAt.EqAt.eqP (eqAt_same rx ry rfl))
    | bl b => cases hx; cases hy; exact (SeqAt.EqAt.eqP (eqAt_same rx ry rfl))
    | int i => cases hx; cases hy; exact (SeqAt.EqAt.eqP (eqAt_same rx ry rfl))
    | str t => cases hx; cases hy; exact (SeqAt.EqAt.eqP (eqAt_same rx ry rfl))
    | tup ds =>
      have hd' : ∀ d ∈ ds, eqOk n d = true := List.all_eq_true.mp hd
      have step := tupT_run I e (A := A) (by omega) (fun d hm x y v u => ih A.in1 (by show A.units + 1 + n < cLine; omega) d x y v u (hd' d hm)) hx hy rx ry
      obtain ⟨a, xs, rfl, ha, ra⟩ := tupE hx
      obtain ⟨b, ys, rfl, hb, rb⟩ := tupE hy
      cases (show v = Value.ref a from rx)
      cases (show u = Value.ref b from ry)
      by_cases z : a = b
      · subst z
        exact (SeqAt.EqAt.same _).eqP
      · exact SeqAt.eqP_refs z step
    | _ => cases hd
end
def rEqT (K : PySem.W.Frag) : R2 := fun x y H Q => ∃ (rs : Rs) (F : Hp) (ds : List D) (n : Nat), n ≤ 60 ∧ Ex F H ∧ eqOk (n + 1) (.tup ds) = true ∧ Rp K rs F x (.tup ds) ∧ Rp K rs F y (.tup ds) ∧ Q (.bl true) H
theorem op_eqT {X : Cx} (hu : X.A.units + 64 < cLine) : OpR X (compareOp .Eq) (rEqT X.K) := by
  intro pins s σ H x y v u Q I rx ry h
  obtain ⟨rs, F, ds, n, hn, e, hd, h1, h2, q⟩ := h
  have hd' : ∀ d ∈ ds, eqOk n d = true := List.all_eq_true.mp hd
  exact tupT_run I e (A := X.A) (by omega) (fun d hm x y v u => eqT_run I e n X.A.in1 (by show X.A.units + 1 + n < cLine; omega) d x y v u (hd' d hm)) h1 h2 rx ry _ _ ⟨.bl true, H, I, rfl, q⟩
@[simp ↓] def dEqT (n : Nat) (a b : D) (k : D → Prop) : Prop := ∃ ds, a = .tup ds ∧ b = .tup ds ∧ n ≤ 60 ∧ eqOk (n + 1) (.tup ds) = true ∧ k (.bl true)
theorem opd_eqT {K : PySem.W.Frag} {m : Nat} : OpD K (rEqT K) (dEqT m) := fun B F ρ σ H v w a b k Q S ra rb ⟨ds, e1, e2, hn, hd, q⟩ n => by
  subst e1 e2
  rcases ra with ra | ⟨_, _, _, _, z, _⟩
  · rcases rb with rb | ⟨_, _, _, _, z, _⟩
    · exact ⟨_, _, ds, m, hn, S.fh, hd, ra, rb, n _ _ _ _ q (Ex.rf _) S (.bl _)⟩
    · cases z
  · cases z
theorem ns_some_of {K : PySem.W.Frag} {h : Heap} {N : Addr} {mg : Str → Option Value} {n : Str} {v : Value} (X : K.In h) (G : h.Ns N mg) (e : PySem.W.nsIn K N n = some (some v)) : mg n = some v := by
  obtain ⟨o, es, ep, ho, hd, _, hf⟩ := G
  unfold PySem.W.nsIn at e
  split at e
  · rename_i c d es' n' sl q
    have := X _ _ q
    rw [ho] at this
    cases this
    cases hd
    split at e
    · rename_i en he
      cases e
      rw [← hf]
      unfold nsFind findBy
      rw [← Array.find?_toList, he]
      rfl
    · split at e <;> cases e
  · cases e
structure CiC (K : PySem.W.Frag) (C : Addr) : Prop where
  cl : Cls K C
  ha : PySem.W.findIn K (.ref C) "__class__" = some (some (.builtin "object.__class__"))
  hn : PySem.W.specialIn K (.builtin "object.__class__") "__get__" = some (some (.builtin "getset_descriptor.__get__"))
  ht : PySem.W.takesIn K (.builtin "object.__class__") = some true
  hm : PySem.W.mroIn K C (.type "object") = some true
structure EqC (K : PySem.W.Frag) (C f : Addr) : Prop where
  cls : ∃ nm q N bs hdct sn sub ab col dd k0 k1 k2 k3 k5, ∃ newId : String, K.lookup C = some (excClassObj nm q C N bs [.type "object"] hdct sn sub ab col dd k0 k1 k2 k3 k5 newId) ∧ PySem.W.nsOkIn K N = true ∧ PySem.W.nsIn K N "__eq__" = some (some (.ref f)) ∧ PySem.W.nsIn K N "__ne__" = some none
  fn : ∃ o, K.lookup f = some o ∧ o.cls = .type "function"
theorem EqC.own {K : PySem.W.Frag} {C f x : Addr} {h : Heap} {o : Obj} (E : EqC K C f) (X : K.In h) (hx : h.get? x = some o) (hc : o.cls = .ref C) : h.OwnEqNoNe x C f "object" [.type "object"] := by
  obtain ⟨nm, q, N, bs, hdct, sn, sub, ab, col, dd, k0, k1, k2, k3, k5, newId, h1, h2, h3, h4⟩ := E.cls
  obtain ⟨of, f1, f2⟩ := E.fn
  exact ⟨o, of, nm, q, N, bs, hdct, sn, sub, ab, col, dd, k0, k1, k2, k3, k5, newId, h.nsMap N, some (.builtin "object.__eq__"), hx, hc, X _ _ h1, .of_isNs (PySem.W.isNs_of_in X h2), ns_some_of X (.of_isNs (PySem.W.isNs_of_in X h2)) h3, X _ _ f1, f2, by kernel_rfl, by rw [typeLookup_type, builtinLookup_eq_fast]; kernel_rfl, PySem.W.nsMap_none_of_in X h2 h4⟩
structure EqD (P : Program) (w : World) (K : PySem.W.Frag) (mg : Str → Option Value) (base : Heap) (k : Nat) (C : Addr) (T : TF) : Prop where
  ex : ∃ (f : Addr) (fd : FuncData) (ps : List Str), EqC K C f ∧ FnOk P w K mg base (L2.CX P w) k f fd ps (spD K T) ∧ Binds K fd ps []
def rNeC (K : PySem.W.Frag) (C : Addr) (T : TF) (E : XK) : R2 := fun x y H Q => ∃ a b dx dy fs gs, x = .ref a ∧ y = .ref b ∧ H a = some (.ins C dx fs) ∧ H b = some (.ins C dy gs) ∧ spD K T [.ref a, .ref b] H (fun u H' => ∃ z, u = .bl z ∧ Q (.bl (!z)) H') E
theorem op_neC {X : Cx} {C f : Addr} {fd : FuncData} {ps : List Str} {n : Nat} {T : TF} {E : XK} (F : FnOk X.prog X.w X.K X.mg X.base (L2.CX X.prog X.w) n f fd ps (spD X.K T)) (e : EqC X.K C f) (hb : Binds X.K fd ps []) (hr : Room (n + 1) X.A) (hu : X.A.units + 64 < cLine) (hx : Passes (L2.CX X.prog X.w) X E) : OpR X (compareOp .NotEq) (rNeC X.K C T E) := by
  intro pins s σ H x y v u Q I rx ry d
  obtain ⟨a, b, dx, dy, fs, gs, rfl, rfl, ha, hb', hsp⟩ := d
  cases (show v = Value.ref a from rx)
  cases (show u = Value.ref b from ry)
  obtain ⟨mA, J, _⟩ := ins_get I.hok ha
  obtain ⟨mB, J', _⟩ := ins_get I.hok hb'
  obtain ⟨od, J, _⟩ := J.look
  obtain ⟨od', J', _⟩ := J'.look
  have e0 : Env0 X.prog X.w X.K X.mg X.base X.A.in1 X.stack s H := by
    have e := I.env0
    exact ⟨e.frames, e.mod, e.bs, e.bsz, e.funs, e.frf, e.hok, e.bare⟩
  have hl := F.len _ _ _ _ hsp
  have r2 : Vals [V.ref a, V.ref b] [Value.ref a, Value.ref b] := .cons rfl (.cons rfl .nil)
  have hcall := F.run X.A.in1 X.stack s H ⟨[.ref a, .ref b], []⟩ [.ref a, .ref b] [.ref a, .ref b] _ E hr.in1 e0 (by
    have := hb s [.ref a, .ref b] I.kIn (by simpa using hl)
    simpa using this) r2 hsp
  have own := e.own I.kIn J.at_ J.cls
  have kk : ∀ r s', CR (L2.CX X.prog X.w) X.stack X.prog X.w H s (fun u H' => ∃ z, u = .bl z ∧ Q (.bl (!z)) H') E r s' → wants (fun v s' => ∃ b, v = .bool b ∧ EP X pins σ Q (.bool (!b)) s') X.xe r s' := fun r s' hq => by
    cases r with
    | error e => exact hx pins σ H s e s' I hq
    | ok fl =>
      cases fl with
      | ret w =>
        obtain ⟨z, H', I', rz, zz, ez, q⟩ := I.after hq
        subst ez
        cases rz
        exact ⟨zz, rfl, .bl (!zz), H', I', rfl, q⟩
      | next => exact False.elim hq
      | brk => exact False.elim hq
      | cont => exact False.elim hq
  have hcall2 := wpAny_call (codeAny_mono hcall kk)
  obtain ⟨hh, g, dd, t, os⟩ := s
  exact compareOp_ne_ownEq PySem.F.cmp_object own J'.at_ J'.cls (by omega) hcall2
@[simp ↓] def dNeC (C : Addr) (T : TF) (ta tb : TD) : TD := fun ρ k x => ta ρ (fun ra ρ1 => ∃ fs, ra = .d (.ins C fs) ∧ tb ρ1 (fun rb ρ2 => ∃ gs, rb = .d (.ins C gs) ∧ T [.ins C fs, .ins C gs] (fun d => ∃ z, d = .bl z ∧ k (.d (.bl (!z))) ρ2) x) x) x
section
variable {X : Cx} {E : XK} {a b : Expr} {ta tb : TD} {pos : Pos} {C : Addr} {T : TF}
theorem emNeC {B : Bs} {F : Hp} {ρ : List Sl} {σ : L2.St} {H : Hp} {k : Kn} {x : Kx} {Q : VK} (S : Sat X.K B F ρ σ H) (q : dNeC C T ta tb ρ k x) (n : nV X.K B F σ k Q) (m : nX X.K E B F x) :
    tOp (rNeC X.K C T E) (emE X.K E ta) (emE X.K E tb) σ H Q := by
  refine ⟨B, F, ρ, _, x, S, q, fun ra ρ1 F1 v H1 ⟨fs, z1, q1⟩ e1 S1 r1 => ?_, m⟩
  subst z1
  refine ⟨B, F1, ρ1, _, x, S1, q1, fun rb ρ2 F2 w H2 ⟨gs, z2, q2⟩ e2 S2 r2 => ?_, m.mono e1⟩
  subst z2
  have r1' : Rp X.K B.rs F2 v (.ins C fs) := Rp.mono e2 r1
  have r2' : Rp X.K B.rs F2 w (.ins C gs) := r2
  cases r1' with
  | ins h1 h2 h3 =>
    cases r2' with
    | ins g1 g2 g3 =>
      refine ⟨_, _, _, _, _, _, rfl, rfl, S2.fh _ _ h1, S2.fh _ _ g1, B.rs, F2, _, _, x, S2.toGr.self, .cons (.ins h1 h2 h3) (.cons (.ins g1 g2 g3) .nil), q2, fun d F' u H' ⟨z, ez, q3⟩ g r3 => ?_, fun Ce m' F' c H' q3 g o => ?_⟩
      · subst ez
        cases r3
        exact ⟨z, rfl, n _ _ _ _ _ q3 ((e1.tr e2).tr g.f0) (S2.call g) (.bl _)⟩
      · exact m Ce m' F' c H' q3 ((e1.tr e2).tr g.f0) (S2.toGr.call g) (by
          cases m' with
          | none => exact o
          | some p => exact o)
theorem dt_neC {k j : Nat} (c : EqD X.prog X.w X.K X.mg X.base k C T) (hr : Room j X.A) (hx : Passes (L2.CX X.prog X.w) X E) (ha : DE X E a ta) (hb : DE X E b tb) (hk : k + 1 ≤ j := by decide) : DT X E (.Compare a [.NotEq] [b] pos) (dTst (dNeC C T ta tb)) := by
  obtain ⟨f, fd, ps, e, F, bd⟩ := c.ex
  exact dt_of (pt_cmpR (op_neC F e bd (hr.mono hk) (hu_of hr) hx) ha hb (nomark _)) fun B F ρ σ H k x Q S q n m => emNeC S q (nTst n) m
@[simp ↓] def dIsiC (C : Addr) (ta : TD) : TD := fun ρ k x => ta ρ (fun r ρ1 => ∃ fs, r = .d (.ins C fs) ∧ k (.d (.bl true)) ρ1) x
theorem de_isiC {y : Str} {p p1 : Pos} (hg : Gl X "isinstance") (hm : X.mg "isinstance" = none) (ha : DE X E a ta) (hy : Gl X y) (my : X.mg y = some (.ref C)) (cl : CiC X.K C) (hdb : (y == ("__debug__" : Str)) = false := by decide)
    (he : starEach (a :: [.Name y p1]) X.env = (false, eval a X.env) :: starEach [.Name y p1] X.env := by rfl) (hpl : (backTo pos (starEach [.Name y p1] X.env)).any (·.1) = false := by rfl)
    (he2 : starEach [.Name y p1] X.env = (false, eval (.Name y p1) X.env) :: starEach [] X.env := by rfl) :
    DE X E (.Call (.Name "isinstance" p) [a, .Name y p1] [] pos) (dIsiC C ta) := by
  have hb : PE X (.Name y p1) (tC (.ref C)) := pe_glob hy my rfl hdb
  refine de_of (pe_callB (hc := call_isi) hg hm boot_isinstance (pa_cons ha (pa_cons hb pa_nil he2) he) (by decide) (by decide) he hpl) fun B F ρ σ H k x Q S q n m => ?_
  refine ⟨B, F, ρ, _, x, S, q, fun r ρ1 F1 v H1 ⟨fs, z, q1⟩ e1 S1 r1 => ?_, m⟩
  subst z
  have r1' : Rp X.K B.rs F1 v (.ins C fs) := r1
  cases r1' with
  | ins h1 h2 h3 => exact ⟨_, _, _, _, true, rfl, .own C, .base (.ins (S1.fh _ _ h1) cl.cl cl.ha cl.hn cl.ht cl.hm), kit_self, n _ _ _ _ _ q1 e1 S1 (Rp.bl _)⟩
end
end DL
namespace DL
open PySem PySem.Spec PyProof.Rows L2
def eqCB (K : PySem.W.Frag) (C f : Addr) : Bool := match K.lookup C with
  | some ⟨.type "type", _, .cls cd, sl⟩ => (match cd.mro, sl.toList with
    | [.ref C', .type o], [_, _, _, _, some (.builtin n), _] => decide (C' = C) && (decide (o = "object") && (!cd.hasDel && (PySem.W.nsOkIn K cd.ns && (decide (PySem.W.nsIn K cd.ns "__eq__" = some (some (.ref f))) && (decide (PySem.W.nsIn K cd.ns "__ne__" = some none) &&
      (match K.lookup f with
        | some o => decide (o.cls = .type "function")
        | none => false))))))
    | _, _ => false)
  | _ => false
theorem eqCB_ok {K : PySem.W.Frag} {C f : Addr} (h : eqCB K C f = true) : EqC K C f := by
  unfold eqCB at h
  split at h
  · rename_i dd cd sl ho
    split at h
    · rename_i C' ob k0 k1 k2 k3 n k5 hm hs
      obtain ⟨h1, h⟩ := He.ba h
      obtain ⟨h2, h⟩ := He.ba h
      obtain ⟨h3, h⟩ := He.ba h
      obtain ⟨h4, h⟩ := He.ba h
      obtain ⟨h5, h⟩ := He.ba h
      obtain ⟨h6, h7⟩ := He.ba h
      split at h7
      · rename_i o hf
        obtain ⟨nm, bs, mro, ns, qn, hd, sn, sub, ab, col, del⟩ := cd
        dsimp only at hm h3 h4 h5 h6
        have hdel : del = false := by simpa using h3
        rw [of_decide_eq_true h1, of_decide_eq_true h2] at hm
        subst hm hdel
        have hsl : sl = #[k0, k1, k2, k3, some (.builtin n), k5] := by
          obtain ⟨l⟩ := sl
          simp only at hs
          rw [hs]
        subst hsl
        exact ⟨⟨nm, qn, ns, bs, hd, sn, sub, ab, col, dd, k0, k1, k2, k3, k5, n, ho, h4, of_decide_eq_true h5, of_decide_eq_true h6⟩, o, hf, of_decide_eq_true h7⟩
      · cases h7
    · cases h
  · cases h
def ciB (K : PySem.W.Frag) (D : Addr) : Bool :=
  decide (PySem.W.findIn K (.ref D) "__class__" = some (some (.builtin "object.__class__"))) && (decide (PySem.W.specialIn K (.builtin "object.__class__") "__get__" = some (some (.builtin "getset_descriptor.__get__"))) && (decide (PySem.W.takesIn K (.builtin "object.__class__") = some true) && decide (PySem.W.mroIn K D (.type "object") = some true)))
theorem ciB_ok {K : PySem.W.Frag} {D : Addr} (c : Cls K D) (h : ciB K D = true) : CiC K D := by
  unfold ciB at h
  obtain ⟨h2, h⟩ := He.ba h
  obtain ⟨h3, h⟩ := He.ba h
  obtain ⟨h4, h5⟩ := He.ba h
  exact ⟨c, of_decide_eq_true h2, of_decide_eq_true h3, of_decide_eq_true h4, of_decide_eq_true h5⟩
end DL
namespace DL
open PySem PySem.Spec PyProof.Rows L2
abbrev cap : Nat := 16777216
def lowS : Str := "abcdefghijklmnopqrstuvwxyz"
def nameS (s : Str) : Bool := decide (1 ≤ s.length) && decide (s.length ≤ 6) && s.cps.toList.all (fun c => decide (c ∈ lowS.cps.toList))
def nameD : D → Bool
  | .str s => nameS s
  | _ => false
def kn (d : D) : Prop := d.ty.isSome = true
def smallD : D → Prop
  | .str s => s.length ≤ 16777216
  | _ => True
@[simp ↓] def T_is_name : TF := fun ds k _ => match ds with
  | [d] => kn d ∧ smallD d ∧ k (.bl (nameD d))
  | _ => False
@[simp ↓] def T__law_is_name : TF := T_is_name
abbrev sD (l : List Str) : D := .tup (l.map D.str)
def ascS : List Str → Bool
  | a :: b :: r => sLt a b && ascS (b :: r)
  | _ => true
structure Slt where
  n : Str
  w : Str
  f : Str
  g : List Str
def Slt.d (s : Slt) : D := .tup [.str s.n, .str s.w, .str s.f, sD s.g]
structure Cls where
  n : Str
  sl : List Slt
  h : Option (List Str)
def hD : Option (List Str) → D
  | none => .str "own"
  | some l => sD l
def Cls.d (c : Cls) : D := .tup [.str c.n, .tup (c.sl.map Slt.d), hD c.h]
def whenS : List Str := ["first", "later"]
def formS : List Str := ["one", "row", "set"]
def slotOk (names : List Str) (s : Slt) : Bool := nameS s.n && decide (s.w ∈ whenS) && decide (s.f ∈ formS) && ascS s.g && !s.g.isEmpty && s.g.all fun t => t == "" || decide (t ∈ names)
def slotsOk (names : List Str) (sl : List Slt) : Bool := decide (sl.length ≤ 4) && sl.all (slotOk names) && decide (sl.map (·.n)).Nodup
def hashOk (sl : List Slt) : Option (List Str) → Bool
  | none => true
  | some l => ascS l && l.all fun x => decide (x ∈ sl.map (·.n))
def clsOk (names : List Str) (c : Cls) : Bool := slotsOk names c.sl && hashOk c.sl c.h
def namedOk (cs : List Cls) : Bool := decide (1 ≤ cs.length) && decide (cs.length ≤ 4) && cs.all (fun c => nameS c.n) && ascS (cs.map (·.n))
def dueC (cs : List Cls) : Option (Option Str) :=
  if namedOk cs = true then ((cs.find? fun c => !clsOk (cs.map (·.n)) c).map fun c => some c.n) else some none
def Slt.sm (s : Slt) : Prop := s.n.length ≤ cap ∧ s.w.length ≤ cap ∧ s.f.length ≤ cap ∧ s.g.length ≤ cap ∧ ∀ x ∈ s.g, x.length ≤ cap
def Cls.sm (c : Cls) : Prop := c.n.length ≤ cap ∧ c.sl.length ≤ cap ∧ (∀ s ∈ c.sl, s.sm) ∧ ∀ l, c.h = some l → l.length ≤ cap ∧ ∀ x ∈ l, x.length ≤ cap
@[simp ↓] def T_is_ascending : TF := fun ds k _ => ∃ l : List Str, ds = [sD l] ∧ l.length ≤ cap ∧ k (.bl (ascS l))
@[simp ↓] def T_is_slot : TF := fun ds k _ => ∃ (l : List Str) (s : Slt), ds = [.lst (l.map D.str), s.d] ∧ l.length ≤ cap ∧ s.sm ∧ k (.bl (slotOk l s))
@[simp ↓] def T_are_slots : TF := fun ds k _ => ∃ (l : List Str) (sl : List Slt), ds = [.lst (l.map D.str), .tup (sl.map Slt.d)] ∧ l.length ≤ cap ∧ sl.length ≤ cap ∧ (∀ s ∈ sl, s.sm) ∧ k (.bl (slotsOk l sl))
@[simp ↓] def T_is_hash : TF := fun ds k _ => ∃ (sl : List Slt) (h : Option (List Str)), ds = [.tup (sl.map Slt.d), hD h] ∧ sl.length ≤ cap ∧ (∀ l, h = some l → l.length ≤ cap) ∧ k (.bl (hashOk sl h))
@[simp ↓] def T_is_class : TF := fun ds k _ => ∃ (l : List Str) (c : Cls), ds = [.lst (l.map D.str), c.d] ∧ l.length ≤ cap ∧ c.sm ∧ k (.bl (clsOk l c))
@[simp ↓] def T_are_named : TF := fun ds k _ => ∃ cs : List Cls, ds = [.lst (cs.map Cls.d)] ∧ cs.length ≤ cap ∧ (∀ c ∈ cs, c.sm) ∧ k (.bl (namedOk cs))
def headW : List Str → D
  | a :: n :: h :: r => if (a == "class") = true ∧ nameS n = true then
      (if (h == "own") = true then (if r.isEmpty = true then .tup [.str n, .str "own"] else .non)
      else if (h == "reads") = true ∧ r.all nameS = true then .tup [.str n, sD r] else .non) else .non
  | _ => .non
def headD (s : Str) : D := headW (spS 32 s)
def fixG (g : Str) : Str := if (g == "#") = true then "" else g
def holeW (m : Bool) : List Str → D
  | n :: w :: f :: g :: r => if m = true ∧ nameS n = true ∧ w ∈ whenS ∧ f ∈ formS ∧ ((g :: r).all fun x => x == "#" || nameS x) = true then Slt.d ⟨n, w, f, (g :: r).map fixG⟩ else .non
  | _ => .non
def holeD (s : Str) : D := holeW (decide (s.cps.toList.take 2 = [32, 32])) (spS 32 (mkS (s.cps.toList.drop 2)))
@[simp ↓] def T_read_head : TF := fun ds k _ => match ds with
  | [.str s] => s.length + 2 ≤ cap ∧ k (headD s)
  | _ => False
@[simp ↓] def T__law_head_of : TF := T_read_head
@[simp ↓] def T_read_slot : TF := fun ds k _ => match ds with
  | [.str s] => s.length + 2 ≤ cap ∧ k (holeD s)
  | _ => False
@[simp ↓] def T__law_hole_of : TF := T_read_slot
@[simp ↓] def T_split_text : TF := fun ds k _ => match ds with
  | [.str s] => s.length + 2 ≤ cap ∧ ∃ ini last, spS 10 s = ini ++ [last] ∧ k (if last.cps.toList = [] then .tup [.lst (ini.map D.str), .bl true] else .tup [.lst ((ini ++ [last]).map D.str), .bl false])
  | _ => False
@[simp ↓] def T__law_is_hole : TF := fun ds k _ => ∃ (l : List Str) (s : Slt), ds = [.lst (l.map D.str), s.d] ∧ l.length ≤ cap ∧ s.sm ∧ s.w ∈ whenS ∧ s.f ∈ formS ∧ k (.bl (slotOk l s))
@[simp ↓] def T__law_is_sheet : TF := fun ds k _ => ∃ (l : List Str) (c : Cls), ds = [.lst (l.map D.str), c.d] ∧ l.length ≤ cap ∧ c.sm ∧ c.sl.length ≤ cap ∧ (∀ s ∈ c.sl, s.w ∈ whenS ∧ s.f ∈ formS) ∧ k (.bl (clsOk l c))
def dueD (cs : List Cls) : D := match dueC cs with
  | none => .non
  | some none => .tup [.str "schema", .non]
  | some (some n) => .tup [.str "schema", .str n]
@[simp ↓] def T__law_sheets_due : TF := fun ds k _ => ∃ cs : List Cls, ds = [.lst (cs.map Cls.d)] ∧ cs.length ≤ cap ∧ (∀ c ∈ cs, c.sm ∧ ∀ s ∈ c.sl, s.w ∈ whenS ∧ s.f ∈ formS) ∧ k (dueD cs)
def headO : List Str → Option (Str × Option (List Str))
  | a :: n :: h :: r => if (a == "class") = true ∧ nameS n = true then
      (if (h == "own") = true then (if r.isEmpty = true then some (n, none) else none)
      else if (h == "reads") = true ∧ r.all nameS = true then some (n, some r) else none) else none
  | _ => none
def holeO (m : Bool) : List Str → Option Slt
  | n :: w :: f :: g :: r => if m = true ∧ nameS n = true ∧ w ∈ whenS ∧ f ∈ formS ∧ ((g :: r).all fun x => x == "#" || nameS x) = true then some ⟨n, w, f, (g :: r).map fixG⟩ else none
  | _ => none
theorem headW_O (W : List Str) : headW W = match headO W with
    | none => .non
    | some p => .tup [.str p.1, hD p.2] := by
  match W with
  | [] => rfl
  | [_] => rfl
  | [_, _] => rfl
  | a :: n :: h :: r =>
    simp only [headW, headO]
    split
    · split
      · split <;> rfl
      · split <;> rfl
    · rfl
theorem holeW_O (m : Bool) (W : List Str) : holeW m W = match holeO m W with
    | none => .non
    | some s => s.d := by
  match W with
  | [] => rfl
  | [_] => rfl
  | [_, _] => rfl
  | [_, _, _] => rfl
  | n :: w :: f :: g :: r =>
    simp only [holeW, holeO]
    split <;> rfl
def lineH (s : Str) : Option (Str × Option (List Str)) := headO (spS 32 s)
def lineS (s : Str) : Option Slt := holeO (decide (s.cps.toList.take 2 = [32, 32])) (spS 32 (mkS (s.cps.toList.drop 2)))
theorem headD_O (s : Str) : headD s = match lineH s with
    | none => .non
    | some p => .tup [.str p.1, hD p.2] := headW_O _
theorem holeD_O (s : Str) : holeD s = match lineS s with
    | none => .non
    | some s => s.d := holeW_O _ _
def addLast : List Cls → Slt → List Cls
  | [], _ => []
  | [c], s => [⟨c.n, c.sl ++ [s], c.h⟩]
  | c :: d :: r, s => c :: addLast (d :: r) s
def rdL : Nat → List Str → List Cls → Nat ⊕ List Cls
  | _, [], fs => .inr fs
  | i, l :: ls, fs => match lineH l with
    | some (n, h) => rdL (i + 1) ls (fs ++ [⟨n, [], h⟩])
    | none => match lineS l with
      | some s => if fs.isEmpty = true then .inl i else rdL (i + 1) ls (addLast fs s)
      | none => .inl i
inductive SR where
  | text (row : Nat) | schema (n : Option Str) | value (cs : List Cls)
def readW (L : List Str) : SR :=
  if (L.getLast? == some "") = true then (match rdL 0 L.dropLast [] with
    | .inl i => .text i
    | .inr cs => match dueC cs with
      | none => .value cs
      | some n => .schema n)
  else match rdL 0 L [] with
    | .inl i => .text i
    | .inr _ => .text L.length
def readR (t : Str) : SR := if (t == "") = true then .text 0 else readW (spS 10 t)
def SR.d : SR → D
  | .text i => .tup [.str "text", .int i]
  | .schema none => .tup [.str "schema", .non]
  | .schema (some n) => .tup [.str "schema", .str n]
  | .value cs => .tup [.str "value", .lst (cs.map Cls.d)]
@[simp ↓] def T__law_read_sheets : TF := fun ds k _ => match ds with
  | [.str t] => t.length + 2 ≤ cap ∧ k (readR t).d
  | _ => False
structure Good (i : Nat) (fs : List Cls) : Prop where
  len : fs.length ≤ i
  it : ∀ c ∈ fs, c.n.length ≤ cap ∧ c.sl.length ≤ i ∧ (∀ s ∈ c.sl, s.sm ∧ s.w ∈ whenS ∧ s.f ∈ formS) ∧ ∀ l, c.h = some l → l.length ≤ cap ∧ ∀ x ∈ l, x.length ≤ cap
theorem Good.sm {i : Nat} {fs : List Cls} (g : Good i fs) (hi : i ≤ cap) : fs.length ≤ cap ∧ ∀ c ∈ fs, c.sm ∧ ∀ s ∈ c.sl, s.w ∈ whenS ∧ s.f ∈ formS :=
  ⟨Nat.le_trans g.len hi, fun c hc => by
    obtain ⟨h1, h2, h3, h4⟩ := g.it c hc
    exact ⟨⟨h1, Nat.le_trans h2 hi, fun s hs => (h3 s hs).1, h4⟩, fun s hs => (h3 s hs).2⟩⟩
theorem addLast_map {fs : List Cls} {s : Slt} : ∀ {pre : List Cls} {c : Cls}, fs = pre ++ [c] → addLast fs s = pre ++ [⟨c.n, c.sl ++ [s], c.h⟩] := by
  intro pre
  induction pre generalizing fs with
  | nil =>
    rintro c rfl
    rfl
  | cons a pre ih =>
    rintro c rfl
    have := ih (fs := pre ++ [c]) (c := c) rfl
    cases pre with
    | nil =>
      simp only [List.nil_append, List.cons_append] at this ⊢
      simp only [addLast]
    | cons b pre =>
      simp only [List.cons_append] at this ⊢
      simp only [addLast, this]
@[simp ↓] def T__law_draw : TF := fun ds k _ => match ds with
  | [.drw, .int n] => 0 < n ∧ n < 1073741824 ∧ ∀ r : Int, 0 ≤ r → r < n → k (.int r)
  | _ => False
@[simp ↓] def T__law_pick : TF := fun ds k _ => match ds with
  | [.drw, .lst xs] => 0 < xs.length ∧ xs.length ≤ 100000000 ∧ ∀ x ∈ xs, k x
  | [.drw, .str z] => 0 < z.length ∧ z.length ≤ 1000000 ∧ ∀ c ∈ z.cps.toList, k (.str ⟨#[c]⟩)
  | _ => False
@[simp ↓] def T__law_labels : TF := fun ds k _ => match ds with
  | [.drw, .int n] => 0 ≤ n ∧ n ≤ 20 ∧ ∀ ls : List Str, (ls.length : Int) = n → (∀ l ∈ ls, l.length ≤ 6) → k (.lst (ls.map D.str))
  | _ => False
structure SmS (s : Slt) : Prop where
  n : s.n.length ≤ 6
  w : s.w.length ≤ 6
  f : s.f.length ≤ 6
  g : s.g.length ≤ 20
  gs : ∀ x ∈ s.g, x.length ≤ 6
structure SmC (c : Cls) : Prop where
  n : c.n.length ≤ 6
  sl : c.sl.length ≤ 20
  s : ∀ s ∈ c.sl, SmS s
  h : ∀ l, c.h = some l → l.length ≤ 20 ∧ ∀ x ∈ l, x.length ≤ 6
@[simp ↓] def T__law_hole : TF := fun ds k _ => ∃ (crew : List Str) (label : Str), ds = [.drw, .lst (crew.map D.str), .str label] ∧ crew.length ≤ 10 ∧ (∀ x ∈ crew, x.length ≤ 6) ∧ label.length ≤ 6 ∧ ∀ s : Slt, SmS s → k s.d
@[simp ↓] def T__law_sheet : TF := fun ds k _ => ∃ (crew : List Str) (label : Str) (most : Int), ds = [.drw, .lst (crew.map D.str), .str label, .int most] ∧ crew.length ≤ 10 ∧ (∀ x ∈ crew, x.length ≤ 6) ∧ label.length ≤ 6 ∧ 0 ≤ most ∧ most ≤ 12 ∧ ∀ c : Cls, SmC c → (c.sl.length : Int) ≤ most → k c.d
@[simp ↓] def T__law_sheets : TF := fun ds k _ => match ds with
  | [.drw, .int many, .int most] => 0 < many ∧ many ≤ 8 ∧ 0 ≤ most ∧ most ≤ 12 ∧ ∀ cs : List Cls, (cs.length : Int) ≤ many → (∀ c ∈ cs, SmC c) → k (.lst (cs.map Cls.d))
  | _ => False
def hashAny (g : Str) : Str := if (g == "") = true then "#" else g
def lineO (c : Cls) : Str := PySem.Txt.join " " ((["class", c.n] : List Str) ++ match c.h with
  | none => (["own"] : List Str)
  | some l => (["reads"] : List Str) ++ l)
def slotL (s : Slt) : Str := "  " ++ PySem.Txt.join " " ([s.n, s.w, s.f] ++ s.g.map hashAny)
def linesC (c : Cls) : List Str := lineO c :: c.sl.map slotL
@[simp ↓] def T__law_sheet_lines : TF := fun ds k _ => ∃ c : Cls, ds = [c.d] ∧ SmC c ∧ k (.lst ((linesC c).map D.str))
@[simp ↓] def T__law_schema_lines : TF := fun ds k _ => ∃ cs : List Cls, ds = [.lst (cs.map Cls.d)] ∧ cs.length ≤ 20 ∧ (∀ c ∈ cs, SmC c) ∧ k (.lst ((cs.flatMap linesC).map D.str))
@[simp ↓] def T__law_page : TF := fun ds k _ => ∃ ls : List Str, ds = [.lst (ls.map D.str)] ∧ ls.length ≤ 10000 ∧ (∀ l ∈ ls, l.length ≤ 1000) ∧ ∀ t : Str, t = PySem.Txt.join "" (ls.map fun l => l ++ "\n") → t.length ≤ 1001 * ls.length → k (.str t)
structure Ca where
  (BuildError BadSchema BadGraph NoName BadText Schema : Addr)
def optD : Option Str → D
  | none => .non
  | some n => .str n
@[simp ↓] def T_Schema (c : Ca) : TFnew := fun ds k x => ∃ cs : List Cls, ds = [.lst (cs.map Cls.d)] ∧ cs.length ≤ cap ∧ (∀ c ∈ cs, c.sm) ∧ match dueC cs with
  | none => k [("s_classes", .tup (cs.map Cls.d))]
  | some n => x c.BadSchema (some ("name", optD n))
def schD (c : Ca) (cs : List Cls) : D := .ins c.Schema [("s_classes", .tup (cs.map Cls.d))]
@[simp ↓] def T_read_schema (c : Ca) : TF := fun ds k x => ∃ d, ds = [d] ∧ kn d ∧ match d with
  | .str s => s.length + 2 ≤ cap ∧ match readR s with
    | .text i => x c.BadText (some ("row", .int i))
    | .schema n => x c.BadSchema (some ("name", optD n))
    | .value cs => k (schD c cs)
  | _ => x c.BadText (some ("row", .int 0))
@[simp ↓] def T_Schema___eq__ (c : Ca) : TF := fun ds k _ => ∃ cs : List Cls, ds = [schD c cs, schD c cs] ∧ k (.bl true)
@[simp ↓] def T__law_smudged : TF := fun ds k _ => match ds with
  | [.drw, .str t] => t.length ≤ 700000 ∧ ∀ t' : Str, t'.length ≤ 2 * t.length + 20 → k (.str t')
  | _ => False
end DL
namespace DL
open PySem PySem.Spec PyProof.Rows L2
def top (i : Nat) : Stmt := PySem.Challenge.pw_halfbuilt_k77_texts_of_schemas_changed.main.body.getD i (.Pass ⟨0, 0, 0, 0⟩)
abbrev s_is_name : Stmt := top 21
abbrev n_is_name : List Str := ["thing", "sign"]
abbrev p_is_name : List Str := ["thing"]
theorem sc_is_name : FnScope n_is_name p_is_name (defScope s_is_name) := ⟨rfl, rfl, rfl, by decide +kernel, rfl, by decide +kernel, by decide +kernel⟩
def t_is_name_1 : TDs :=
  (dRet (dCB (d1 fAll) (dCons (dLc (dIt (dVar 0)) (gN 1) dYes (dOp dIn (dVar 1) (dC (.str "abcdefghijklmnopqrstuvwxyz"))) [1]) dNil)))
def t_is_name : TDs :=
  (dSeq (dIfS (dOr (dNot (dTst (dIsi "str" (dVar 0)))) (dNot (dTst (dChain dLe dLe (dC (.int 1)) (dCB (d1 fLen) (dCons (dVar 0) dNil)) (dC (.int 6)))))) (dRet (dC (.bl false))) dNext) t_is_name_1)
abbrev s__law_is_name : Stmt := top 44
abbrev n__law_is_name : List Str := ["value", "sign"]
abbrev p__law_is_name : List Str := ["value"]
theorem sc__law_is_name : FnScope n__law_is_name p__law_is_name (defScope s__law_is_name) := ⟨rfl, rfl, rfl, by decide +kernel, rfl, by decide +kernel, by decide +kernel⟩
def t__law_is_name_1 : TDs :=
  (dRet (dOp dEq (dLc (dIt (dVar 0)) (gN 1) (dTst (dOp dNotIn (dVar 1) (dC (.str "abcdefghijklmnopqrstuvwxyz")))) (dVar 1) [1]) (dLst dNil)))
def t__law_is_name : TDs :=
  (dSeq (dIfS (dOr (dNot (dTst (dIsi "str" (dVar 0)))) (dNot (dTst (dChain dLe dLe (dC (.int 1)) (dCB (d1 fLen) (dCons (dVar 0) dNil)) (dC (.int 6)))))) (dRet (dC (.bl false))) dNext) t__law_is_name_1)
abbrev s_read_head : Stmt := top 32
abbrev n_read_head : List Str := ["line", "words", "word"]
abbrev p_read_head : List Str := ["line"]
theorem sc_read_head : FnScope n_read_head p_read_head (defScope s_read_head) := ⟨rfl, rfl, rfl, by decide +kernel, rfl, by decide +kernel, by decide +kernel⟩
def t_read_head_b1 : TDs :=
  (dRet (dIf (dTst (dOp dEq (dCB (d1 fLen) (dCons (dVar 1) dNil)) (dC (.int 3)))) (dTup (dCons (dOp dIx (dVar 1) (dC (.int 1))) (dCons (dC (.str "own")) dNil))) (dC .non)))
def t_read_head_4 : TDs :=
  (dRet (dTup (dCons (dOp dIx (dVar 1) (dC (.int 1))) (dCons (dCB (d1 fTuple) (dCons (dSl (dVar 1) (dPart (dC (.int 3))) dNoPart) dNil)) dNil))))
def t_read_head_3 : TDs :=
  (dSeq (dIfS (dOr (dTst (dOp dNe (dOp dIx (dVar 1) (dC (.int 2))) (dC (.str "reads")))) (dNot (dTst (dCB (d1 fAll) (dCons (dLc (dIt (dSl (dVar 1) (dPart (dC (.int 3))) dNoPart)) (gN 2) dYes (dCall T_is_name (dCons (dVar 2) dNil)) [2]) dNil))))) (dRet (dC .non)) dNext) t_read_head_4)
def t_read_head_2 : TDs :=
  (dSeq (dIfS (dTst (dOp dEq (dOp dIx (dVar 1) (dC (.int 2))) (dC (.str "own")))) t_read_head_b1 dNext) t_read_head_3)
def t_read_head_1 : TDs :=
  (dSeq (dIfS (dOr (dTst (dOp dLt (dCB (d1 fLen) (dCons (dVar 1) dNil)) (dC (.int 3)))) (dOr (dTst (dOp dNe (dOp dIx (dVar 1) (dC (.int 0))) (dC (.str "class")))) (dNot (dTst (dCall T_is_name (dCons (dOp dIx (dVar 1) (dC (.int 1))) dNil)))))) (dRet (dC .non)) dNext) t_read_head_2)
def t_read_head : TDs :=
  (dSeq (dSet 1 (dSplit (dVar 0) (dC (.str " ")))) t_read_head_1)
abbrev s_read_slot : Stmt := top 33
abbrev n_read_slot : List Str := ["line", "words", "word"]
abbrev p_read_slot : List Str := ["line"]
theorem sc_read_slot : FnScope n_read_slot p_read_slot (defScope s_read_slot) := ⟨rfl, rfl, rfl, by decide +kernel, rfl, by decide +kernel, by decide +kernel⟩
def t_read_slot_4 : TDs :=
  (dRet (dTup (dCons (dOp dIx (dVar 1) (dC (.int 0))) (dCons (dOp dIx (dVar 1) (dC (.int 1))) (dCons (dOp dIx (dVar 1) (dC (.int 2))) (dCons (dCB (d1 fTuple) (dCons (dLc (dIt (dSl (dVar 1) (dPart (dC (.int 3))) dNoPart)) (gN 2) dYes (dIf (dTst (dOp dEq (dVar 2) (dC (.str "#")))) (dC (.str "")) (dVar 2)) [2]) dNil)) dNil))))))
def t_read_slot_3 : TDs :=
  (dSeq (dIfS (dNot (dTst (dCB (d1 fAll) (dCons (dLc (dIt (dSl (dVar 1) (dPart (dC (.int 3))) dNoPart)) (gN 2) dYes (dOrV (dOp dEq (dVar 2) (dC (.str "#"))) (dCall T_is_name (dCons (dVar 2) dNil))) [2]) dNil)))) (dRet (dC .non)) dNext) t_read_slot_4)
def t_read_slot_2 : TDs :=
  (dSeq (dIfS (dOr (dTst (dOp dNotIn (dOp dIx (dVar 1) (dC (.int 1))) (dC (.tup ((["first", "later"] : List Str).map D.str))))) (dTst (dOp dNotIn (dOp dIx (dVar 1) (dC (.int 2))) (dC (.tup ((["one", "row", "set"] : List Str).map D.str)))))) (dRet (dC .non)) dNext) t_read_slot_3)
def t_read_slot_1 : TDs :=
  (dSeq (dIfS (dOr (dTst (dOp dNe (dSl (dVar 0) dNoPart (dPart (dCB (d1 fLen) (dCons (dC (.str "  ")) dNil)))) (dC (.str "  ")))) (dOr (dTst (dOp dLt (dCB (d1 fLen) (dCons (dVar 1) dNil)) (dC (.int 4)))) (dNot (dTst (dCall T_is_name (dCons (dOp dIx (dVar 1) (dC (.int 0))) dNil)))))) (dRet (dC .non)) dNext) t_read_slot_2)
def t_read_slot : TDs :=
  (dSeq (dSet 1 (dSplit (dSl (dVar 0) (dPart (dCB (d1 fLen) (dCons (dC (.str "  ")) dNil))) dNoPart) (dC (.str " ")))) t_read_slot_1)
abbrev s_split_text : Stmt := top 34
abbrev n_split_text : List Str := ["text", "rows"]
abbrev p_split_text : List Str := ["text"]
theorem sc_split_text : FnScope n_split_text p_split_text (defScope s_split_text) := ⟨rfl, rfl, rfl, by decide +kernel, rfl, by decide +kernel, by decide +kernel⟩
def t_split_text_1 : TDs :=
  (dRet (dIf (dTst (dOp dEq (dOp dIx (dVar 1) (dC (.int (-1)))) (dC (.str "")))) (dTup (dCons (dSl (dVar 1) dNoPart (dPart (dC (.int (-1))))) (dCons (dC (.bl true)) dNil))) (dTup (dCons (dVar 1) (dCons (dC (.bl false)) dNil)))))
def t_split_text : TDs :=
  (dSeq (dSet 1 (dSplit (dVar 0) (dC (.str "\n")))) t_split_text_1)
abbrev s_is_ascending : Stmt := top 22
abbrev n_is_ascending : List Str := ["thing", "one", "other"]
abbrev p_is_ascending : List Str := ["thing"]
theorem sc_is_ascending : FnScope n_is_ascending p_is_ascending (defScope s_is_ascending) := ⟨rfl, rfl, rfl, by decide +kernel, rfl, by decide +kernel, by decide +kernel⟩
def t_is_ascending_1 : TDs :=
  (dRet (dCB (d1 fAll) (dCons (dLc (dZip (dCons (dVar 0) (dCons (dSl (dVar 0) (dPart (dC (.int 1))) dNoPart) dNil))) (gT 2 (gsC (gN 1) (gsC (gN 2) gsN))) dYes (dOp dLt (dVar 1) (dVar 2)) [1, 2]) dNil)))
def t_is_ascending : TDs :=
  (dSeq (dIfS (dOr (dNot (dTst (dIsi "tuple" (dVar 0)))) (dNot (dTst (dCB (d1 fAll) (dCons (dLc (dIt (dVar 0)) (gN 1) dYes (dIsi "str" (dVar 1)) [1]) dNil))))) (dRet (dC (.bl false))) dNext) t_is_ascending_1)
abbrev s_is_slot : Stmt := top 23
abbrev n_is_slot : List Str := ["names", "thing", "name", "when", "form", "targets", "target"]
abbrev p_is_slot : List Str := ["names", "thing"]
theorem sc_is_slot : FnScope n_is_slot p_is_slot (defScope s_is_slot) := ⟨rfl, rfl, rfl, by decide +kernel, rfl, by decide +kernel, by decide +kernel⟩
def t_is_slot_4 : TDs :=
  (dRet (dCB (d1 fAll) (dCons (dLc (dIt (dVar 5)) (gN 6) dYes (dOrV (dOp dEq (dVar 6) (dC (.str ""))) (dOp dIn (dVar 6) (dVar 0))) [6]) dNil)))
def t_is_slot_3 : TDs :=
  (dSeq (dIfS (dOr (dNot (dTst (dCall T_is_ascending (dCons (dVar 5) dNil)))) (dTst (dOp dEq (dVar 5) (dTup dNil)))) (dRet (dC (.bl false))) dNext) t_is_slot_4)
def t_is_slot_2 : TDs :=
  (dSeq (dIfS (dOr (dNot (dTst (dIsi "str" (dVar 3)))) (dOr (dTst (dOp dNotIn (dVar 3) (dC (.tup ((["first", "later"] : List Str).map D.str))))) (dOr (dNot (dTst (dIsi "str" (dVar 4)))) (dTst (dOp dNotIn (dVar 4) (dC (.tup ((["one", "row", "set"] : List Str).map D.str)))))))) (dRet (dC (.bl false))) dNext) t_is_slot_3)
def t_is_slot_1 : TDs :=
  (dSeq (dAsg (dVar 1) (gT 4 (gsC (gN 2) (gsC (gN 3) (gsC (gN 4) (gsC (gN 5) gsN)))))) t_is_slot_2)
def t_is_slot : TDs :=
  (dSeq (dIfS (dOr (dNot (dTst (dIsi "tuple" (dVar 1)))) (dOr (dTst (dOp dNe (dCB (d1 fLen) (dCons (dVar 1) dNil)) (dC (.int 4)))) (dNot (dTst (dCall T_is_name (dCons (dOp dIx (dVar 1) (dC (.int 0))) dNil)))))) (dRet (dC (.bl false))) dNext) t_is_slot_1)
abbrev s_is_hash : Stmt := top 25
abbrev n_is_hash : List Str := ["slots", "thing", "name", "slot"]
abbrev p_is_hash : List Str := ["slots", "thing"]
theorem sc_is_hash : FnScope n_is_hash p_is_hash (defScope s_is_hash) := ⟨rfl, rfl, rfl, by decide +kernel, rfl, by decide +kernel, by decide +kernel⟩
def t_is_hash_1 : TDs :=
  (dRet (dAndV (dCall T_is_ascending (dCons (dVar 1) dNil)) (dCB (d1 fAll) (dCons (dLc (dIt (dVar 1)) (gN 2) dYes (dOp dIn (dVar 2) (dLc (dIt (dVar 0)) (gN 3) dYes (dOp dIx (dVar 3) (dC (.int 0))) [3])) [2]) dNil))))
def t_is_hash : TDs :=
  (dSeq (dIfS (dTst (dIsi "str" (dVar 1))) (dRet (dOp dEq (dVar 1) (dC (.str "own")))) dNext) t_is_hash_1)
abbrev s__law_head_of : Stmt := top 51
abbrev n__law_head_of : List Str := ["line", "words", "word"]
abbrev p__law_head_of : List Str := ["line"]
theorem sc__law_head_of : FnScope n__law_head_of p__law_head_of (defScope s__law_head_of) := ⟨rfl, rfl, rfl, by decide +kernel, rfl, by decide +kernel, by decide +kernel⟩
def t__law_head_of_4 : TDs :=
  (dRet (dTup (dCons (dOp dIx (dVar 1) (dC (.int 1))) (dCons (dCB (d1 fTuple) (dCons (dSl (dVar 1) (dPart (dC (.int 3))) dNoPart) dNil)) dNil))))
def t__law_head_of_3 : TDs :=
  (dSeq (dIfS (dOr (dTst (dOp dNe (dOp dIx (dVar 1) (dC (.int 2))) (dC (.str "reads")))) (dTst (dOp dNe (dLc (dIt (dSl (dVar 1) (dPart (dC (.int 3))) dNoPart)) (gN 2) (dNot (dTst (dCall T__law_is_name (dCons (dVar 2) dNil)))) (dVar 2) [2]) (dLst dNil)))) (dRet (dC .non)) dNext) t__law_head_of_4)
def t__law_head_of_2 : TDs :=
  (dSeq (dIfS (dAnd (dTst (dOp dEq (dOp dIx (dVar 1) (dC (.int 2))) (dC (.str "own")))) (dTst (dOp dEq (dCB (d1 fLen) (dCons (dVar 1) dNil)) (dC (.int 3))))) (dRet (dTup (dCons (dOp dIx (dVar 1) (dC (.int 1))) (dCons (dC (.str "own")) dNil)))) dNext) t__law_head_of_3)
def t__law_head_of_1 : TDs :=
  (dSeq (dIfS (dOr (dTst (dOp dLt (dCB (d1 fLen) (dCons (dVar 1) dNil)) (dC (.int 3)))) (dOr (dTst (dOp dNe (dOp dIx (dVar 1) (dC (.int 0))) (dC (.str "class")))) (dNot (dTst (dCall T__law_is_name (dCons (dOp dIx (dVar 1) (dC (.int 1))) dNil)))))) (dRet (dC .non)) dNext) t__law_head_of_2)
def t__law_head_of : TDs :=
  (dSeq (dSet 1 (dSplit (dVar 0) (dC (.str " ")))) t__law_head_of_1)
abbrev s__law_hole_of : Stmt := top 52
abbrev n__law_hole_of : List Str := ["line", "words", "word"]
abbrev p__law_hole_of : List Str := ["line"]
theorem sc__law_hole_of : FnScope n__law_hole_of p__law_hole_of (defScope s__law_hole_of) := ⟨rfl, rfl, rfl, by decide +kernel, rfl, by decide +kernel, by decide +kernel⟩
def t__law_hole_of_4 : TDs :=
  (dRet (dTup (dCons (dOp dIx (dVar 1) (dC (.int 0))) (dCons (dOp dIx (dVar 1) (dC (.int 1))) (dCons (dOp dIx (dVar 1) (dC (.int 2))) (dCons (dCB (d1 fTuple) (dCons (dLc (dIt (dSl (dVar 1) (dPart (dC (.int 3))) dNoPart)) (gN 2) dYes (dIf (dTst (dOp dEq (dVar 2) (dC (.str "#")))) (dC (.str "")) (dVar 2)) [2]) dNil)) dNil))))))
def t__law_hole_of_3 : TDs :=
  (dSeq (dIfS (dTst (dOp dNe (dLc (dIt (dSl (dVar 1) (dPart (dC (.int 3))) dNoPart)) (gN 2) (dAnd (dTst (dOp dNe (dVar 2) (dC (.str "#")))) (dNot (dTst (dCall T__law_is_name (dCons (dVar 2) dNil))))) (dVar 2) [2]) (dLst dNil))) (dRet (dC .non)) dNext) t__law_hole_of_4)
def t__law_hole_of_2 : TDs :=
  (dSeq (dIfS (dOr (dTst (dOp dNotIn (dOp dIx (dVar 1) (dC (.int 1))) (dTup (dCons (dC (.str "first")) (dCons (dC (.str "later")) dNil))))) (dTst (dOp dNotIn (dOp dIx (dVar 1) (dC (.int 2))) (dTup (dCons (dC (.str "one")) (dCons (dC (.str "row")) (dCons (dC (.str "set")) dNil))))))) (dRet (dC .non)) dNext) t__law_hole_of_3)
def t__law_hole_of_1 : TDs :=
  (dSeq (dIfS (dOr (dTst (dOp dNe (dSl (dVar 0) dNoPart (dPart (dC (.int 2)))) (dC (.str "  ")))) (dOr (dTst (dOp dLt (dCB (d1 fLen) (dCons (dVar 1) dNil)) (dC (.int 4)))) (dNot (dTst (dCall T__law_is_name (dCons (dOp dIx (dVar 1) (dC (.int 0))) dNil)))))) (dRet (dC .non)) dNext) t__law_hole_of_2)
def t__law_hole_of : TDs :=
  (dSeq (dSet 1 (dSplit (dSl (dVar 0) (dPart (dC (.int 2))) dNoPart) (dC (.str " ")))) t__law_hole_of_1)
abbrev s_are_slots : Stmt := top 24
abbrev n_are_slots : List Str := ["names", "thing", "one"]
abbrev p_are_slots : List Str := ["names", "thing"]
theorem sc_are_slots : FnScope n_are_slots p_are_slots (defScope s_are_slots) := ⟨rfl, rfl, rfl, by decide +kernel, rfl, by decide +kernel, by decide +kernel⟩
def t_are_slots_1 : TDs :=
  (dRet (dOp dEq (dCB (d1 fLenD) (dCons (dDc (dIt (dVar 1)) (gN 2) dYes (dOp dIx (dVar 2) (dC (.int 0))) (dC (.bl true)) [2]) dNil)) (dCB (d1 fLen) (dCons (dVar 1) dNil))))
def t_are_slots : TDs :=
  (dSeq (dIfS (dOr (dNot (dTst (dIsi "tuple" (dVar 1)))) (dOr (dTst (dOp dGt (dCB (d1 fLen) (dCons (dVar 1) dNil)) (dC (.int 4)))) (dNot (dTst (dCB (d1 fAll) (dCons (dLc (dIt (dVar 1)) (gN 2) dYes (dCall T_is_slot (dCons (dVar 0) (dCons (dVar 2) dNil))) [2]) dNil)))))) (dRet (dC (.bl false))) dNext) t_are_slots_1)
abbrev s_is_class : Stmt := top 26
abbrev n_is_class : List Str := ["names", "thing"]
abbrev p_is_class : List Str := ["names", "thing"]
theorem sc_is_class : FnScope n_is_class p_is_class (defScope s_is_class) := ⟨rfl, rfl, rfl, by decide +kernel, rfl, by decide +kernel, by decide +kernel⟩
def t_is_class : TDs :=
  (dRet (dAndV (dCall T_are_slots (dCons (dVar 0) (dCons (dOp dIx (dVar 1) (dC (.int 1))) dNil))) (dCall T_is_hash (dCons (dOp dIx (dVar 1) (dC (.int 1))) (dCons (dOp dIx (dVar 1) (dC (.int 2))) dNil)))))
abbrev s_are_named : Stmt := top 27
abbrev n_are_named : List Str := ["thing", "one", "other"]
abbrev p_are_named : List Str := ["thing"]
theorem sc_are_named : FnScope n_are_named p_are_named (defScope s_are_named) := ⟨rfl, rfl, rfl, by decide +kernel, rfl, by decide +kernel, by decide +kernel⟩
def t_are_named_2 : TDs :=
  (dRet (dCB (d1 fAll) (dCons (dLc (dZip (dCons (dVar 0) (dCons (dSl (dVar 0) (dPart (dC (.int 1))) dNoPart) dNil))) (gT 2 (gsC (gN 1) (gsC (gN 2) gsN))) dYes (dOp dLt (dOp dIx (dVar 1) (dC (.int 0))) (dOp dIx (dVar 2) (dC (.int 0)))) [1, 2]) dNil)))
def t_are_named_1 : TDs :=
  (dSeq (dIfS (dNot (dTst (dCB (d1 fAll) (dCons (dLc (dIt (dVar 0)) (gN 1) dYes (dAndV (dIsi "tuple" (dVar 1)) (dAndV (dOp dEq (dCB (d1 fLen) (dCons (dVar 1) dNil)) (dC (.int 3))) (dCall T_is_name (dCons (dOp dIx (dVar 1) (dC (.int 0))) dNil)))) [1]) dNil)))) (dRet (dC (.bl false))) dNext) t_are_named_2)
def t_are_named : TDs :=
  (dSeq (dIfS (dOr (dNot (dTst (dIsi2 "list" "tuple" (dVar 0)))) (dNot (dTst (dChain dLe dLe (dC (.int 1)) (dCB (d1 fLen) (dCons (dVar 0) dNil)) (dC (.int 4)))))) (dRet (dC (.bl false))) dNext) t_are_named_1)
abbrev s_Schema___init__ : Stmt := inClass (top 28) 0
abbrev n_Schema___init__ : List Str := ["self", "classes", "names", "one"]
abbrev p_Schema___init__ : List Str := ["self", "classes"]
theorem sc_Schema___init__ : FnScope n_Schema___init__ p_Schema___init__ (defScope s_Schema___init__) := ⟨rfl, rfl, rfl, by decide +kernel, rfl, by decide +kernel, by decide +kernel⟩
def t_Schema___init___b1 (c : Ca) : TDs :=
  (dIfS (dNot (dTst (dCall T_is_class (dCons (dVar 2) (dCons (dVar 3) dNil))))) (dRaise c.BadSchema "name" (dOp dIx (dVar 3) (dC (.int 0)))) dNext)
def t_Schema___init___3 (c : Ca) : TDs :=
  (dSetF c.Schema "s_classes" (dVar 0) (dCB (d1 fTuple) (dCons (dVar 1) dNil)))
def t_Schema___init___2 (c : Ca) : TDs :=
  (dSeq (dFor (dIt (dVar 1)) (gN 3) (t_Schema___init___b1 c)) (t_Schema___init___3 c))
def t_Schema___init___1 (c : Ca) : TDs :=
  (dSeq (dSet 2 (dLc (dIt (dVar 1)) (gN 3) dYes (dOp dIx (dVar 3) (dC (.int 0))) [3])) (t_Schema___init___2 c))
def t_Schema___init__ (c : Ca) : TDs :=
  (dSeq (dIfS (dNot (dTst (dCall T_are_named (dCons (dVar 1) dNil)))) (dRaise c.BadSchema "name" (dC .non)) dNext) (t_Schema___init___1 c))
abbrev s_Schema___eq__ : Stmt := inClass (top 28) 3
abbrev n_Schema___eq__ : List Str := ["self", "other"]
abbrev p_Schema___eq__ : List Str := ["self", "other"]
theorem sc_Schema___eq__ : FnScope n_Schema___eq__ p_Schema___eq__ (defScope s_Schema___eq__) := ⟨rfl, rfl, rfl, by decide +kernel, rfl, by decide +kernel, by decide +kernel⟩
def t_Schema___eq__ (c : Ca) : TDs :=
  (dRet (dAndV (dIsiC c.Schema (dVar 1)) (dOp (dEqT 5) (dFld c.Schema "s_classes" (dVar 0)) (dFld c.Schema "s_classes" (dVar 1)))))
abbrev s_read_schema : Stmt := top 35
abbrev n_read_schema : List Str := ["text", "found", "row", "line", "rows", "is_ended", "head", "slot", "name", "slots", "hash_of"]
abbrev p_read_schema : List Str := ["text"]
theorem sc_read_schema : FnScope n_read_schema p_read_schema (defScope s_read_schema) := ⟨rfl, rfl, rfl, by decide +kernel, rfl, by decide +kernel, by decide +kernel⟩
def t_read_schema_b1 (c : Ca) : TDs :=
  (dDrop (dApp 1 (dTup (dCons (dOp dIx (dVar 6) (dC (.int 0))) (dCons (dNewC dNil) (dCons (dOp dIx (dVar 6) (dC (.int 1))) dNil))))))
def t_read_schema_b2_2 (c : Ca) : TDs :=
  (dIfS (dTst (dOp dIsN (dVar 6) (dC .non))) (t_read_schema_b1 c) (dDrop (dAppC (dOp dIx (dOp dIx (dVar 1) (dC (.int (-1)))) (dC (.int 1))) (dVar 7))))
def t_read_schema_b2_1 (c : Ca) : TDs :=
  (dSeq (dIfS (dAnd (dTst (dOp dIs (dVar 6) (dC .non))) (dOr (dTst (dOp dIs (dVar 7) (dC .non))) (dTst (dEqNil (dVar 1))))) (dRaise c.BadText "row" (dVar 2)) dNext) (t_read_schema_b2_2 c))
def t_read_schema_b2 (c : Ca) : TDs :=
  (dSeq (dPar [6, 7] (pD (dCall T_read_head (dCons (dVar 3) dNil)) (pD (dCall T_read_slot (dCons (dVar 3) dNil)) pNil))) (t_read_schema_b2_1 c))
def t_read_schema_4 (c : Ca) : TDs :=
  (dRet (dMk c.Schema (T_Schema c) (dCons (dLc (dIt (dVar 1)) (gT 3 (gsC (gN 8) (gsC (gN 9) (gsC (gN 10) gsN)))) dYes (dTup (dCons (dVar 8) (dCons (dTupC (dVar 9)) (dCons (dVar 10) dNil)))) [8, 9, 10]) dNil)))
def t_read_schema_3 (c : Ca) : TDs :=
  (dSeq (dIfS (dNot (dTst (dVar 5))) (dRaise c.BadText "row" (dCB (d1 fLen) (dCons (dVar 4) dNil))) dNext) (t_read_schema_4 c))
def t_read_schema_2 (c : Ca) : TDs :=
  (dSeq (dFor (dEnum (dCons (dVar 4) dNil)) (gT 2 (gsC (gN 2) (gsC (gN 3) gsN))) (t_read_schema_b2 c)) (t_read_schema_3 c))
def t_read_schema_1 (c : Ca) : TDs :=
  (dSeq (dAsgDO (dCall T_split_text (dCons (dVar 0) dNil)) (fLst dNil) (gT 2 (gsC (gN 4) (gsC (gN 5) gsN))) 1) (t_read_schema_2 c))
def t_read_schema (c : Ca) : TDs :=
  (dSeq (dIfS (dOr (dNot (dTst (dIsi "str" (dVar 0)))) (dTst (dOp dEq (dVar 0) (dC (.str ""))))) (dRaise c.BadText "row" (dC (.int 0))) dNext) (t_read_schema_1 c))
abbrev s__law_is_hole : Stmt := top 45
abbrev n__law_is_hole : List Str := ["crew", "value", "goals", "one", "other"]
abbrev p__law_is_hole : List Str := ["crew", "value"]
theorem sc__law_is_hole : FnScope n__law_is_hole p__law_is_hole (defScope s__law_is_hole) := ⟨rfl, rfl, rfl, by decide +kernel, rfl, by decide +kernel, by decide +kernel⟩
def t__law_is_hole_6 : TDs :=
  (dRet (dOp dEq (dLc (dIt (dVar 2)) (gN 3) (dAnd (dTst (dOp dNe (dVar 3) (dC (.str "")))) (dTst (dOp dNotIn (dVar 3) (dVar 0)))) (dVar 3) [3]) (dLst dNil)))
def t__law_is_hole_5 : TDs :=
  (dSeq (dIfS (dTst (dOp dNe (dLc (dZip (dCons (dVar 2) (dCons (dSl (dVar 2) (dPart (dC (.int 1))) dNoPart) dNil))) (gT 2 (gsC (gN 3) (gsC (gN 4) gsN))) (dNot (dTst (dOp dLt (dVar 3) (dVar 4)))) (dC (.int 1)) [3, 4]) (dLst dNil))) (dRet (dC (.bl false))) dNext) t__law_is_hole_6)
def t__law_is_hole_4 : TDs :=
  (dSeq (dIfS (dTst (dOp dNe (dLc (dIt (dVar 2)) (gN 3) (dNot (dTst (dIsi "str" (dVar 3)))) (dVar 3) [3]) (dLst dNil))) (dRet (dC (.bl false))) dNext) t__law_is_hole_5)
def t__law_is_hole_3 : TDs :=
  (dSeq (dIfS (dOr (dNot (dTst (dIsi "tuple" (dVar 2)))) (dTst (dOp dEq (dVar 2) (dTup dNil)))) (dRet (dC (.bl false))) dNext) t__law_is_hole_4)
def t__law_is_hole_2 : TDs :=
  (dSeq (dSet 2 (dOp dIx (dVar 1) (dC (.int 3)))) t__law_is_hole_3)
def t__law_is_hole_1 : TDs :=
  (dSeq (dIfS (dOr (dTst (dOp dNotIn (dCB (d1 fRepr) (dCons (dOp dIx (dVar 1) (dC (.int 1))) dNil)) (dLst (dCons (dC (.str "'first'")) (dCons (dC (.str "'later'")) dNil))))) (dTst (dOp dNotIn (dCB (d1 fRepr) (dCons (dOp dIx (dVar 1) (dC (.int 2))) dNil)) (dLst (dCons (dC (.str "'one'")) (dCons (dC (.str "'row'")) (dCons (dC (.str "'set'")) dNil))))))) (dRet (dC (.bl false))) dNext) t__law_is_hole_2)
def t__law_is_hole : TDs :=
  (dSeq (dIfS (dOr (dNot (dTst (dIsi "tuple" (dVar 1)))) (dOr (dTst (dOp dNe (dCB (d1 fLen) (dCons (dVar 1) dNil)) (dC (.int 4)))) (dNot (dTst (dCall T__law_is_name (dCons (dOp dIx (dVar 1) (dC (.int 0))) dNil)))))) (dRet (dC (.bl false))) dNext) t__law_is_hole_1)
abbrev s__law_is_sheet : Stmt := top 46
abbrev n__law_is_sheet : List Str := ["crew", "value", "labels", "holes", "seen", "hole", "one", "other"]
abbrev p__law_is_sheet : List Str := ["crew", "value"]
theorem sc__law_is_sheet : FnScope n__law_is_sheet p__law_is_sheet (defScope s__law_is_sheet) := ⟨rfl, rfl, rfl, by decide +kernel, rfl, by decide +kernel, by decide +kernel⟩
def t__law_is_sheet_8 : TDs :=
  (dRet (dOp dEq (dLc (dZip (dCons (dVar 4) (dCons (dSl (dVar 4) (dPart (dC (.int 1))) dNoPart) dNil))) (gT 2 (gsC (gN 6) (gsC (gN 7) gsN))) (dNot (dTst (dOp dLt (dVar 6) (dVar 7)))) (dC (.int 1)) [6, 7]) (dLst dNil)))
def t__law_is_sheet_7 : TDs :=
  (dSeq (dIfS (dTst (dOp dNe (dLc (dIt (dVar 4)) (gN 6) (dOr (dNot (dTst (dIsi "str" (dVar 6)))) (dTst (dOp dNotIn (dVar 6) (dVar 2)))) (dC (.int 1)) [6]) (dLst dNil))) (dRet (dC (.bl false))) dNext) t__law_is_sheet_8)
def t__law_is_sheet_6 : TDs :=
  (dSeq (dIfS (dNot (dTst (dIsi "tuple" (dVar 4)))) (dRet (dC (.bl false))) dNext) t__law_is_sheet_7)
def t__law_is_sheet_5 : TDs :=
  (dSeq (dIfS (dTst (dIsi "str" (dVar 4))) (dRet (dOp dEq (dVar 4) (dC (.str "own")))) dNext) t__law_is_sheet_6)
def t__law_is_sheet_4 : TDs :=
  (dSeq (dIfS (dTst (dOp dNe (dLenSet (dVar 2)) (dCB (d1 fLen) (dCons (dVar 2) dNil)))) (dRet (dC (.bl false))) dNext) t__law_is_sheet_5)
def t__law_is_sheet_3 : TDs :=
  (dSeq (dSet 2 (dLc (dIt (dVar 3)) (gN 5) dYes (dOp dIx (dVar 5) (dC (.int 0))) [5])) t__law_is_sheet_4)
def t__law_is_sheet_2 : TDs :=
  (dSeq (dIfS (dTst (dOp dNe (dLc (dIt (dVar 3)) (gN 5) (dNot (dTst (dCall T__law_is_hole (dCons (dVar 0) (dCons (dVar 5) dNil))))) (dC (.int 1)) [5]) (dLst dNil))) (dRet (dC (.bl false))) dNext) t__law_is_sheet_3)
def t__law_is_sheet_1 : TDs :=
  (dSeq (dIfS (dOr (dNot (dTst (dIsi "tuple" (dVar 3)))) (dTst (dOp dGt (dCB (d1 fLen) (dCons (dVar 3) dNil)) (dC (.int 4))))) (dRet (dC (.bl false))) dNext) t__law_is_sheet_2)
def t__law_is_sheet : TDs :=
  (dSeq (dPar [3, 4] (pD (dOp dIx (dVar 1) (dC (.int 1))) (pD (dOp dIx (dVar 1) (dC (.int 2))) pNil))) t__law_is_sheet_1)
abbrev s__law_sheets_due : Stmt := top 47
abbrev n__law_sheets_due : List Str := ["value", "one", "crew", "wrong", "other"]
abbrev p__law_sheets_due : List Str := ["value"]
theorem sc__law_sheets_due : FnScope n__law_sheets_due p__law_sheets_due (defScope s__law_sheets_due) := ⟨rfl, rfl, rfl, by decide +kernel, rfl, by decide +kernel, by decide +kernel⟩
def t__law_sheets_due_b1 : TDs :=
  (dIfS (dOr (dNot (dTst (dIsi "tuple" (dVar 1)))) (dOr (dTst (dOp dNe (dCB (d1 fLen) (dCons (dVar 1) dNil)) (dC (.int 3)))) (dNot (dTst (dCall T__law_is_name (dCons (dOp dIx (dVar 1) (dC (.int 0))) dNil)))))) (dRet (dTup (dCons (dC (.str "schema")) (dCons (dC .non) dNil)))) dNext)
def t__law_sheets_due_5 : TDs :=
  (dRet (dIf (dTst (dOp dNe (dVar 3) (dLst dNil))) (dTup (dCons (dC (.str "schema")) (dCons (dOp dIx (dVar 3) (dC (.int 0))) dNil))) (dC .non)))
def t__law_sheets_due_4 : TDs :=
  (dSeq (dSet 3 (dLc (dIt (dVar 0)) (gN 1) (dNot (dTst (dCall T__law_is_sheet (dCons (dVar 2) (dCons (dVar 1) dNil))))) (dOp dIx (dVar 1) (dC (.int 0))) [1])) t__law_sheets_due_5)
def t__law_sheets_due_3 : TDs :=
  (dSeq (dIfS (dTst (dOp dNe (dLc (dZip (dCons (dVar 2) (dCons (dSl (dVar 2) (dPart (dC (.int 1))) dNoPart) dNil))) (gT 2 (gsC (gN 1) (gsC (gN 4) gsN))) (dNot (dTst (dOp dLt (dVar 1) (dVar 4)))) (dC (.int 1)) [1, 4]) (dLst dNil))) (dRet (dTup (dCons (dC (.str "schema")) (dCons (dC .non) dNil)))) dNext) t__law_sheets_due_4)
def t__law_sheets_due_2 : TDs :=
  (dSeq (dSet 2 (dLc (dIt (dVar 0)) (gN 1) dYes (dOp dIx (dVar 1) (dC (.int 0))) [1])) t__law_sheets_due_3)
def t__law_sheets_due_1 : TDs :=
  (dSeq (dFor (dIt (dVar 0)) (gN 1) t__law_sheets_due_b1) t__law_sheets_due_2)
def t__law_sheets_due : TDs :=
  (dSeq (dIfS (dOr (dNot (dTst (dIsi2 "list" "tuple" (dVar 0)))) (dNot (dTst (dChain dLe dLe (dC (.int 1)) (dCB (d1 fLen) (dCons (dVar 0) dNil)) (dC (.int 4)))))) (dRet (dTup (dCons (dC (.str "schema")) (dCons (dC .non) dNil)))) dNext) t__law_sheets_due_1)
abbrev s__law_read_sheets : Stmt := top 53
abbrev n__law_read_sheets : List Str := ["text", "lines", "due", "is_ended", "found", "spot", "line", "head", "hole"]
abbrev p__law_read_sheets : List Str := ["text"]
theorem sc__law_read_sheets : FnScope n__law_read_sheets p__law_read_sheets (defScope s__law_read_sheets) := ⟨rfl, rfl, rfl, by decide +kernel, rfl, by decide +kernel, by decide +kernel⟩
def t__law_read_sheets_b1 : TDs :=
  (dDrop (dApp 4 (dTup (dCons (dOp dIx (dVar 7) (dC (.int 0))) (dCons (dTup dNil) (dCons (dOp dIx (dVar 7) (dC (.int 1))) dNil))))))
def t__law_read_sheets_b2 : TDs :=
  (dSetI 4 (dTup (dCons (dOp dIx (dOp dIx (dVar 4) (dC (.int (-1)))) (dC (.int 0))) (dCons (dOp dAdd (dOp dIx (dOp dIx (dVar 4) (dC (.int (-1)))) (dC (.int 1))) (dTup (dCons (dVar 8) dNil))) (dCons (dOp dIx (dOp dIx (dVar 4) (dC (.int (-1)))) (dC (.int 2))) dNil)))) (dC (.int (-1))))
def t__law_read_sheets_b3 : TDs :=
  (dIfS (dAnd (dTst (dOp dIsN (dVar 8) (dC .non))) (dTst (dOp dNe (dVar 4) (dLst dNil)))) t__law_read_sheets_b2 (dRet (dTup (dCons (dC (.str "text")) (dCons (dVar 5) dNil)))))
def t__law_read_sheets_b4_1 : TDs :=
  (dIfS (dTst (dOp dIsN (dVar 7) (dC .non))) t__law_read_sheets_b1 t__law_read_sheets_b3)
def t__law_read_sheets_b4 : TDs :=
  (dSeq (dPar [7, 8] (pD (dCall T__law_head_of (dCons (dVar 6) dNil)) (pD (dCall T__law_hole_of (dCons (dVar 6) dNil)) pNil))) t__law_read_sheets_b4_1)
def t__law_read_sheets_6 : TDs :=
  (dRet (dIf (dTst (dOp dIsN (dVar 2) (dC .non))) (dVar 2) (dTup (dCons (dC (.str "value")) (dCons (dVar 4) dNil)))))
def t__law_read_sheets_5 : TDs :=
  (dSeq (dSet 2 (dCall T__law_sheets_due (dCons (dVar 4) dNil))) t__law_read_sheets_6)
def t__law_read_sheets_4 : TDs :=
  (dSeq (dIfS (dNot (dTst (dVar 3))) (dRet (dTup (dCons (dC (.str "text")) (dCons (dCB (d1 fLen) (dCons (dVar 1) dNil)) dNil)))) dNext) t__law_read_sheets_5)
def t__law_read_sheets_3 : TDs :=
  (dSeq (dFor (dEnum (dCons (dIf (dTst (dVar 3)) (dSl (dVar 1) dNoPart (dPart (dC (.int (-1))))) (dVar 1)) dNil)) (gT 2 (gsC (gN 5) (gsC (gN 6) gsN))) t__law_read_sheets_b4) t__law_read_sheets_4)
def t__law_read_sheets_2 : TDs :=
  (dSeq (dPar [3, 4] (pD (dOp dEq (dOp dIx (dVar 1) (dC (.int (-1)))) (dC (.str ""))) (pO (fLst dNil) pNil))) t__law_read_sheets_3)
def t__law_read_sheets_1 : TDs :=
  (dSeq (dSet 1 (dSplit (dVar 0) (dC (.str "\n")))) t__law_read_sheets_2)
def t__law_read_sheets : TDs :=
  (dSeq (dIfS (dTst (dOp dEq (dVar 0) (dC (.str "")))) (dRet (dTup (dCons (dC (.str "text")) (dCons (dC (.int 0)) dNil)))) dNext) t__law_read_sheets_1)
abbrev s__law_pick : Stmt := top 39
abbrev n__law_pick : List Str := ["draws", "some"]
abbrev p__law_pick : List Str := ["draws", "some"]
theorem sc__law_pick : FnScope n__law_pick p__law_pick (defScope s__law_pick) := ⟨rfl, rfl, rfl, by decide +kernel, rfl, by decide +kernel, by decide +kernel⟩
def t__law_pick : TDs :=
  (dRet (dOp dIx (dVar 1) (dCall T__law_draw (dCons (dVar 0) (dCons (dCB (d1 fLen) (dCons (dVar 1) dNil)) dNil)))))
abbrev s__law_labels : Stmt := top 40
abbrev n__law_labels : List Str := ["draws", "many", "own", "k", "letters", "found", "label", "others", "sign", "j", "one"]
abbrev p__law_labels : List Str := ["draws", "many"]
theorem sc__law_labels : FnScope n__law_labels p__law_labels (defScope s__law_labels) := ⟨rfl, rfl, rfl, by decide +kernel, rfl, by decide +kernel, by decide +kernel⟩
def t__law_labels_b1 : TDs :=
  (dSet 6 (dJoin (dC (.str "")) (dLc (dRng (dCons (dCall T__law_pick (dCons (dVar 0) (dCons (dLst (dCons (dC (.int 1)) (dCons (dC (.int 1)) (dCons (dC (.int 2)) (dCons (dC (.int 6)) dNil))))) dNil))) dNil)) (gN 9) dYes (dCall T__law_pick (dCons (dVar 0) (dCons (dVar 4) dNil))) [9])))
def t__law_labels_b2_3 : TDs :=
  (dDrop (dApp 5 (dOp dIx (dLc (dIt (dOp dAdd (dLst (dCons (dVar 6) dNil)) (dVar 7))) (gN 10) (dTst (dOp dNotIn (dVar 10) (dVar 5))) (dVar 10) [10]) (dC (.int 0)))))
def t__law_labels_b2_2 : TDs :=
  (dSeq (dSet 7 (dLc (dIt (dVar 4)) (gN 8) dYes (dOp dAdd (dSl (dVar 6) dNoPart (dPart (dC (.int 5)))) (dVar 8)) [8])) t__law_labels_b2_3)
def t__law_labels_b2_1 : TDs :=
  (dSeq (dIfS (dTst (dOp dGt (dCall T__law_draw (dCons (dVar 0) (dCons (dC (.int 3)) dNil))) (dC (.int 0)))) t__law_labels_b1 dNext) t__law_labels_b2_2)
def t__law_labels_b2 : TDs :=
  (dSeq (dSet 6 (dCall T__law_pick (dCons (dVar 0) (dCons (dVar 2) dNil)))) t__law_labels_b2_1)
def t__law_labels_3 : TDs :=
  (dRet (dVar 5))
def t__law_labels_2 : TDs :=
  (dSeq (dFor (dRng (dCons (dVar 1) dNil)) (gN 3) t__law_labels_b2) t__law_labels_3)
def t__law_labels_1 : TDs :=
  (dSeq (dSet 2 (dLst (dCons (dC (.str "a")) (dCons (dC (.str "b")) (dCons (dC (.str "own")) (dCons (dC (.str "reads")) (dCons (dC (.str "class")) (dCons (dC (.str "first")) (dCons (dC (.str "one")) (dCons (dC (.str "set")) (dCons (dC (.str "make")) (dCons (dC (.str "ready")) (dCons (dC (.str "root")) (dCons (dC (.str "zzzzzz")) dNil)))))))))))))) t__law_labels_2)
def t__law_labels : TDs :=
  (dSeq (dPar [4, 5] (pD (dC (.str "abcdefghijklmnopqrstuvwxyz")) (pO (fLst dNil) pNil))) t__law_labels_1)
abbrev s__law_hole : Stmt := top 41
abbrev n__law_hole : List Str := ["draws", "crew", "label", "goals", "when", "goal"]
abbrev p__law_hole : List Str := ["draws", "crew", "label"]
theorem sc__law_hole : FnScope n__law_hole p__law_hole (defScope s__law_hole) := ⟨rfl, rfl, rfl, by decide +kernel, rfl, by decide +kernel, by decide +kernel⟩
def t__law_hole_3 : TDs :=
  (dRet (dTup (dCons (dVar 2) (dCons (dVar 4) (dCons (dCall T__law_pick (dCons (dVar 0) (dCons (dLst (dCons (dC (.str "one")) (dCons (dC (.str "row")) (dCons (dC (.str "set")) dNil)))) dNil))) (dCons (dCB (d1 fTuple) (dCons (dVar 3) dNil)) dNil))))))
def t__law_hole_2 : TDs :=
  (dSeq (dSet 4 (dCall T__law_pick (dCons (dVar 0) (dCons (dLst (dCons (dC (.str "first")) (dCons (dC (.str "later")) dNil))) dNil)))) t__law_hole_3)
def t__law_hole_1 : TDs :=
  (dSeq (dSet 3 (dIf (dTst (dOp dNe (dVar 3) (dLst dNil))) (dVar 3) (dLst (dCons (dCall T__law_pick (dCons (dVar 0) (dCons (dOp dAdd (dLst (dCons (dC (.str "")) dNil)) (dCB (d1 fSorted) (dCons (dVar 1) dNil))) dNil))) dNil)))) t__law_hole_2)
def t__law_hole : TDs :=
  (dSeq (dSet 3 (dLc (dIt (dOp dAdd (dLst (dCons (dC (.str "")) dNil)) (dCB (d1 fSorted) (dCons (dVar 1) dNil)))) (gN 5) (dTst (dOp dEq (dCall T__law_draw (dCons (dVar 0) (dCons (dC (.int 2)) dNil))) (dC (.int 0)))) (dVar 5) [5])) t__law_hole_1)
abbrev s__law_sheet : Stmt := top 42
abbrev n__law_sheet : List Str := ["draws", "crew", "label", "most", "some", "holes", "seen", "one", "hole"]
abbrev p__law_sheet : List Str := ["draws", "crew", "label", "most"]
theorem sc__law_sheet : FnScope n__law_sheet p__law_sheet (defScope s__law_sheet) := ⟨rfl, rfl, rfl, by decide +kernel, rfl, by decide +kernel, by decide +kernel⟩
def t__law_sheet_3 : TDs :=
  (dRet (dTup (dCons (dVar 2) (dCons (dCB (d1 fTuple) (dCons (dVar 5) dNil)) (dCons (dIf (dTst (dOp dEq (dCall T__law_draw (dCons (dVar 0) (dCons (dC (.int 3)) dNil))) (dC (.int 0)))) (dC (.str "own")) (dVar 6)) dNil)))))
def t__law_sheet_2 : TDs :=
  (dSeq (dSet 6 (dCB (d1 fTuple) (dCons (dCB (d1 fSorted) (dCons (dLc (dIt (dVar 5)) (gN 8) (dTst (dOp dEq (dCall T__law_draw (dCons (dVar 0) (dCons (dC (.int 2)) dNil))) (dC (.int 0)))) (dOp dIx (dVar 8) (dC (.int 0))) [8]) dNil)) dNil))) t__law_sheet_3)
def t__law_sheet_1 : TDs :=
  (dSeq (dSet 5 (dLc (dIt (dVar 4)) (gN 7) dYes (dCall T__law_hole (dCons (dVar 0) (dCons (dVar 1) (dCons (dVar 7) dNil)))) [7])) t__law_sheet_2)
def t__law_sheet : TDs :=
  (dSeq (dSet 4 (dCall T__law_labels (dCons (dVar 0) (dCons (dCall T__law_draw (dCons (dVar 0) (dCons (dOp dAdd (dVar 3) (dC (.int 1))) dNil))) dNil)))) t__law_sheet_1)
abbrev s__law_sheets : Stmt := top 43
abbrev n__law_sheets : List Str := ["draws", "many", "most", "label", "crew", "found", "left"]
abbrev p__law_sheets : List Str := ["draws", "many", "most"]
theorem sc__law_sheets : FnScope n__law_sheets p__law_sheets (defScope s__law_sheets) := ⟨rfl, rfl, rfl, by decide +kernel, rfl, by decide +kernel, by decide +kernel⟩
def t__law_sheets_b1_1 : TDs :=
  (dSet 6 (dOp dSub (dVar 6) (dCB (d1 fLen) (dCons (dOp dIx (dOp dIx (dVar 5) (dC (.int (-1)))) (dC (.int 1))) dNil))))
def t__law_sheets_b1 : TDs :=
  (dSeq (dDrop (dApp 5 (dCall T__law_sheet (dCons (dVar 0) (dCons (dVar 4) (dCons (dVar 3) (dCons (dCB fMin2 (dCons (dVar 2) (dCons (dVar 6) dNil))) dNil))))))) t__law_sheets_b1_1)
def t__law_sheets_2 : TDs :=
  (dRet (dVar 5))
def t__law_sheets_1 : TDs :=
  (dSeq (dFor (dIt (dVar 4)) (gN 3) t__law_sheets_b1) t__law_sheets_2)
def t__law_sheets : TDs :=
  (dSeq (dPar [4, 5, 6] (pD (dCB (d1 fSorted) (dCons (dCall T__law_labels (dCons (dVar 0) (dCons (dOp dAdd (dC (.int 1)) (dCall T__law_draw (dCons (dVar 0) (dCons (dVar 1) dNil)))) dNil))) dNil)) (pO (fLst dNil) (pD (dC (.int 12)) pNil)))) t__law_sheets_1)
abbrev s__law_sheet_lines : Stmt := top 48
abbrev n__law_sheet_lines : List Str := ["sheet", "found", "label", "holes", "seen", "title", "when", "form", "goals", "words", "goal"]
abbrev p__law_sheet_lines : List Str := ["sheet"]
theorem sc__law_sheet_lines : FnScope n__law_sheet_lines p__law_sheet_lines (defScope s__law_sheet_lines) := ⟨rfl, rfl, rfl, by decide +kernel, rfl, by decide +kernel, by decide +kernel⟩
def t__law_sheet_lines_b1_1 : TDs :=
  (dDrop (dApp 1 (dOp dAdd (dC (.str "  ")) (dJoin (dC (.str " ")) (dOp dAdd (dLst (dCons (dVar 5) (dCons (dVar 6) (dCons (dVar 7) dNil)))) (dVar 9))))))
def t__law_sheet_lines_b1 : TDs :=
  (dSeq (dSet 9 (dLc (dIt (dVar 8)) (gN 10) dYes (dIf (dTst (dOp dNe (dVar 10) (dC (.str "")))) (dVar 10) (dC (.str "#"))) [10])) t__law_sheet_lines_b1_1)
def t__law_sheet_lines_3 : TDs :=
  (dRet (dVar 1))
def t__law_sheet_lines_2 : TDs :=
  (dSeq (dFor (dIt (dVar 3)) (gT 4 (gsC (gN 5) (gsC (gN 6) (gsC (gN 7) (gsC (gN 8) gsN))))) t__law_sheet_lines_b1) t__law_sheet_lines_3)
def t__law_sheet_lines_1 : TDs :=
  (dSeq (dSetO 1 (fLst (dCons (dJoin (dC (.str " ")) (dOp dAdd (dLst (dCons (dC (.str "class")) (dCons (dVar 2) dNil))) (dIf (dTst (dOp dEq (dVar 4) (dC (.str "own")))) (dLst (dCons (dC (.str "own")) dNil)) (dOp dAdd (dLst (dCons (dC (.str "reads")) dNil)) (dCB (d1 fList) (dCons (dVar 4) dNil)))))) dNil))) t__law_sheet_lines_2)
def t__law_sheet_lines : TDs :=
  (dSeq (dAsg (dVar 0) (gT 3 (gsC (gN 2) (gsC (gN 3) (gsC (gN 4) gsN))))) t__law_sheet_lines_1)
abbrev s__law_schema_lines : Stmt := top 50
abbrev n__law_schema_lines : List Str := ["sheets", "found", "sheet"]
abbrev p__law_schema_lines : List Str := ["sheets"]
theorem sc__law_schema_lines : FnScope n__law_schema_lines p__law_schema_lines (defScope s__law_schema_lines) := ⟨rfl, rfl, rfl, by decide +kernel, rfl, by decide +kernel, by decide +kernel⟩
def t__law_schema_lines_2 : TDs :=
  (dRet (dVar 1))
def t__law_schema_lines_1 : TDs :=
  (dSeq (dFor (dIt (dVar 0)) (gN 2) (dSet 1 (dOp dAdd (dVar 1) (dCall T__law_sheet_lines (dCons (dVar 2) dNil))))) t__law_schema_lines_2)
def t__law_schema_lines : TDs :=
  (dSeq (dSet 1 (dLst dNil)) t__law_schema_lines_1)
abbrev s__law_page : Stmt := top 49
abbrev n__law_page : List Str := ["lines", "line"]
abbrev p__law_page : List Str := ["lines"]
theorem sc__law_page : FnScope n__law_page p__law_page (defScope s__law_page) := ⟨rfl, rfl, rfl, by decide +kernel, rfl, by decide +kernel, by decide +kernel⟩
def t__law_page : TDs :=
  (dRet (dJoin (dC (.str "")) (dLc (dIt (dVar 0)) (gN 1) dYes (dOp dAdd (dVar 1) (dC (.str "\n"))) [1])))
abbrev s__law_smudged : Stmt := top 55
abbrev n__law_smudged : List Str := ["draws", "text", "at", "words", "some", "spot", "way", "lines", "sign"]
abbrev p__law_smudged : List Str := ["draws", "text"]
theorem sc__law_smudged : FnScope n__law_smudged p__law_smudged (defScope s__law_smudged) := ⟨rfl, rfl, rfl, by decide +kernel, rfl, by decide +kernel, by decide +kernel⟩
def t__law_smudged_b1_2 : TDs :=
  (dRet (dOp dAdd (dOp dAdd (dSl (dVar 1) dNoPart (dPart (dVar 5))) (dCall T__law_pick (dCons (dVar 0) (dCons (dLst (dCons (dVar 8) (dCons (dC (.str "")) (dCons (dOp dAdd (dVar 8) (dOp dIx (dVar 1) (dVar 5))) dNil)))) dNil)))) (dSl (dVar 1) (dPart (dOp dAdd (dVar 5) (dC (.int 1)))) dNoPart)))
def t__law_smudged_b1_1 : TDs :=
  (dSeq (dSet 8 (dCall T__law_pick (dCons (dVar 0) (dCons (dC (.str "abon019- #\n")) dNil)))) t__law_smudged_b1_2)
def t__law_smudged_b1 : TDs :=
  (dSeq (dSet 5 (dCall T__law_draw (dCons (dVar 0) (dCons (dCB (d1 fLen) (dCons (dVar 1) dNil)) dNil)))) t__law_smudged_b1_1)
def t__law_smudged_b2 : TDs :=
  (dRet (dJoin (dC (.str "\n")) (dOp dAdd (dSl (dVar 7) dNoPart (dPart (dVar 2))) (dSl (dVar 7) (dPart (dOp dAdd (dVar 2) (dC (.int 1)))) dNoPart))))
def t__law_smudged_b3 : TDs :=
  (dRet (dJoin (dC (.str "\n")) (dOp dAdd (dOp dAdd (dSl (dVar 7) dNoPart (dPart (dVar 2))) (dLst (dCons (dCall T__law_pick (dCons (dVar 0) (dCons (dVar 7) dNil))) dNil))) (dSl (dVar 7) (dPart (dVar 2)) dNoPart))))
def t__law_smudged_b4 : TDs :=
  (dSetI 3 (dCall T__law_pick (dCons (dVar 0) (dCons (dOp dAdd (dVar 4) (dSplit (dCall T__law_pick (dCons (dVar 0) (dCons (dVar 7) dNil))) (dC (.str " ")))) dNil))) (dVar 5))
def t__law_smudged_b5 : TDs :=
  (dIfS (dAnd (dTst (dOp dEq (dVar 6) (dC (.int 5)))) (dTst (dOp dGt (dCB (d1 fLen) (dCons (dVar 3) dNil)) (dC (.int 1))))) (dDrop (dPopAt 3 (dVar 5))) t__law_smudged_b4)
def t__law_smudged_10 : TDs :=
  (dRet (dJoin (dC (.str "\n")) (dOp dAdd (dOp dAdd (dSl (dVar 7) dNoPart (dPart (dVar 2))) (dLst (dCons (dJoin (dC (.str " ")) (dVar 3)) dNil))) (dSl (dVar 7) (dPart (dOp dAdd (dVar 2) (dC (.int 1)))) dNoPart))))
def t__law_smudged_9 : TDs :=
  (dSeq (dIfS (dTst (dOp dEq (dVar 6) (dC (.int 4)))) (dDrop (dIns 3 (dVar 5) (dCall T__law_pick (dCons (dVar 0) (dCons (dVar 4) dNil))))) t__law_smudged_b5) t__law_smudged_10)
def t__law_smudged_8 : TDs :=
  (dSeq (dSet 5 (dCall T__law_draw (dCons (dVar 0) (dCons (dCB (d1 fLen) (dCons (dVar 3) dNil)) dNil)))) t__law_smudged_9)
def t__law_smudged_7 : TDs :=
  (dSeq (dSet 4 (dOp dAdd (dVar 4) (dLst (dCons (dC (.str "one")) (dCons (dC (.str "row")) (dCons (dC (.str "set")) (dCons (dC (.str "class")) (dCons (dC (.str "a")) (dCons (dC (.str "")) dNil))))))))) t__law_smudged_8)
def t__law_smudged_6 : TDs :=
  (dSeq (dSet 4 (dLst (dCons (dC (.str "0")) (dCons (dC (.str "1")) (dCons (dC (.str "01")) (dCons (dC (.str "999")) (dCons (dC (.str "1000")) (dCons (dC (.str "-0")) (dCons (dC (.str "-7")) (dCons (dC (.str "1234567")) (dCons (dC (.str "#")) (dCons (dC (.str "own")) (dCons (dC (.str "reads")) (dCons (dC (.str "first")) (dCons (dC (.str "later")) dNil))))))))))))))) t__law_smudged_7)
def t__law_smudged_5 : TDs :=
  (dSeq (dSetO 3 (fSplit (dOp dIx (dVar 7) (dVar 2)) (dC (.str " ")))) t__law_smudged_6)
def t__law_smudged_4 : TDs :=
  (dSeq (dIfS (dTst (dOp dEq (dVar 6) (dC (.int 3)))) t__law_smudged_b3 dNext) t__law_smudged_5)
def t__law_smudged_3 : TDs :=
  (dSeq (dIfS (dTst (dOp dEq (dVar 6) (dC (.int 2)))) t__law_smudged_b2 dNext) t__law_smudged_4)
def t__law_smudged_2 : TDs :=
  (dSeq (dSet 2 (dCall T__law_draw (dCons (dVar 0) (dCons (dCB (d1 fLen) (dCons (dVar 7) dNil)) dNil)))) t__law_smudged_3)
def t__law_smudged_1 : TDs :=
  (dSeq (dIfS (dAnd (dTst (dOp dLt (dVar 6) (dC (.int 2)))) (dTst (dOp dNe (dVar 1) (dC (.str ""))))) t__law_smudged_b1 dNext) t__law_smudged_2)
def t__law_smudged : TDs :=
  (dSeq (dPar [6, 7] (pD (dCall T__law_draw (dCons (dVar 0) (dCons (dC (.int 8)) dNil))) (pD (dSplit (dVar 1) (dC (.str "\n"))) pNil))) t__law_smudged_1)
abbrev s_law : Stmt := top 56
abbrev n_law : List Str := ["script", "draws", "turn", "text", "change", "due", "told"]
abbrev p_law : List Str := ["script"]
theorem sc_law : FnScope n_law p_law (defScope s_law) := ⟨rfl, rfl, rfl, by decide +kernel, rfl, by decide +kernel, by decide +kernel⟩
def t_law_b1_4 (c : Ca) (tb : Addr) : TDs :=
  (dIfS (dAnd (dTst (dOp dEq (dOp dIx (dVar 5) (dC (.int 0))) (dC (.str "value")))) (dTst (dNeC c.Schema (T_Schema___eq__ c) (dOp dIx (dVar 6) (dC (.int 1))) (dMk c.Schema (T_Schema c) (dCons (dOp dIx (dVar 5) (dC (.int 1))) dNil))))) (dRet (dC (.bl false))) dNext)
def t_law_b1_3 (c : Ca) (tb : Addr) : TDs :=
  (dSeq (dIfS (dOr (dTst (dOp dNe (dOp dIx (dVar 5) (dC (.int 0))) (dOp dIx (dVar 6) (dC (.int 0))))) (dAnd (dTst (dOp dNe (dOp dIx (dVar 5) (dC (.int 0))) (dC (.str "value")))) (dTst (dNeRepr (dVar 5) (dVar 6))))) (dRet (dC (.bl false))) dNext) (t_law_b1_4 c tb))
def t_law_b1_2 (c : Ca) (tb : Addr) : TDs :=
  (dSeq (dPar [5, 6] (pD (dCall T__law_read_sheets (dCons (dVar 3) dNil)) (pD (dTold (tells c.BadText c.BadSchema c.BadGraph) tb "law.<locals>.<lambda>" (dCall (T_read_schema c) (dCons (dVar 3) dNil))) pNil))) (t_law_b1_3 c tb))
def t_law_b1_1 (c : Ca) (tb : Addr) : TDs :=
  (dSeq (dFor (dRng (dCons (dCall T__law_draw (dCons (dVar 1) (dCons (dC (.int 5)) dNil))) dNil)) (gN 4) (dSet 3 (dCall T__law_smudged (dCons (dVar 1) (dCons (dVar 3) dNil))))) (t_law_b1_2 c tb))
def t_law_b1 (c : Ca) (tb : Addr) : TDs :=
  (dSeq (dSet 3 (dCall T__law_page (dCons (dCall T__law_schema_lines (dCons (dCall T__law_sheets (dCons (dVar 1) (dCons (dC (.int 4)) (dCons (dC (.int 2)) dNil)))) dNil)) dNil))) (t_law_b1_1 c tb))
def t_law_1 (c : Ca) (tb : Addr) : TDs :=
  (dRet (dC (.bl true)))
def t_law (c : Ca) (tb : Addr) : TDs :=
  (dSeq (dFor (dRng (dCons (dOp dAdd (dC (.int 12)) (dCB fMin2 (dCons (dCB (d1 fLen) (dCons (dVar 0) dNil)) (dCons (dC (.int 40)) dNil)))) dNil)) (gN 2) (t_law_b1 c tb)) (t_law_1 c tb))
abbrev s__law_draw : Stmt := top 38
abbrev p__law_draw : List Str := ["draws", "many"]
abbrev s__law_state : Stmt := top 37
abbrev p__law_state : List Str := ["script"]
abbrev s__law_text_told : Stmt := top 54
abbrev p__law_text_told : List Str := ["work"]
theorem sc__law_text_told : FnScope tellN p__law_text_told (defScope s__law_text_told) := ⟨rfl, rfl, rfl, by decide +kernel, rfl, by decide +kernel, by decide +kernel⟩
theorem tS__law_text_told : TellS (defScope s__law_text_told) := ⟨by decide +kernel, by decide +kernel⟩
structure Wr (c : Ca) (P : Program) (w : World) (K : PySem.W.Frag) (mg : Str → Option Value) (base : Heap) : Prop where
  d_is_name : DefP K mg "is_name" s_is_name p_is_name
  d__law_is_name : DefP K mg "_law_is_name" s__law_is_name p__law_is_name
  d_read_head : DefP K mg "read_head" s_read_head p_read_head
  d_read_slot : DefP K mg "read_slot" s_read_slot p_read_slot
  d_split_text : DefP K mg "split_text" s_split_text p_split_text
  d_is_ascending : DefP K mg "is_ascending" s_is_ascending p_is_ascending
  d_is_slot : DefP K mg "is_slot" s_is_slot p_is_slot
  d_is_hash : DefP K mg "is_hash" s_is_hash p_is_hash
  d__law_head_of : DefP K mg "_law_head_of" s__law_head_of p__law_head_of
  d__law_hole_of : DefP K mg "_law_hole_of" s__law_hole_of p__law_hole_of
  d_are_slots : DefP K mg "are_slots" s_are_slots p_are_slots
  d_is_class : DefP K mg "is_class" s_is_class p_is_class
  d_are_named : DefP K mg "are_named" s_are_named p_are_named
  k_Schema : ∃ f fd, Mk K c.Schema f ∧ Fun K "__init__" "Schema.__init__" s_Schema___init__ f fd ∧ mg "Schema" = some (.ref c.Schema) ∧ Binds K fd p_Schema___init__ []
  q_Schema : ∃ f fd, EqC K c.Schema f ∧ Fun K "__eq__" "Schema.__eq__" s_Schema___eq__ f fd ∧ Binds K fd p_Schema___eq__ []
  d_read_schema : DefP K mg "read_schema" s_read_schema p_read_schema
  d__law_is_hole : DefP K mg "_law_is_hole" s__law_is_hole p__law_is_hole
  d__law_is_sheet : DefP K mg "_law_is_sheet" s__law_is_sheet p__law_is_sheet
  d__law_sheets_due : DefP K mg "_law_sheets_due" s__law_sheets_due p__law_sheets_due
  d__law_read_sheets : DefP K mg "_law_read_sheets" s__law_read_sheets p__law_read_sheets
  d__law_draw : DefP K mg "_law_draw" s__law_draw p__law_draw
  d__law_pick : DefP K mg "_law_pick" s__law_pick p__law_pick
  d__law_labels : DefP K mg "_law_labels" s__law_labels p__law_labels
  d__law_hole : DefP K mg "_law_hole" s__law_hole p__law_hole
  d__law_sheet : DefP K mg "_law_sheet" s__law_sheet p__law_sheet
  d__law_sheets : DefP K mg "_law_sheets" s__law_sheets p__law_sheets
  d__law_sheet_lines : DefP K mg "_law_sheet_lines" s__law_sheet_lines p__law_sheet_lines
  d__law_schema_lines : DefP K mg "_law_schema_lines" s__law_schema_lines p__law_schema_lines
  d__law_page : DefP K mg "_law_page" s__law_page p__law_page
  d__law_smudged : DefP K mg "_law_smudged" s__law_smudged p__law_smudged
  d__law_state : DefP K mg "_law_state" s__law_state p__law_state
  d__law_text_told : DefP K mg "_law_text_told" s__law_text_told p__law_text_told
  d_law : DefP K mg "law" s_law p_law
  cl_Schema : L2.Cls K c.Schema
  gc_Schema : mg "Schema" = some (.ref c.Schema)
  ci_Schema : CiC K c.Schema
  na_Schema_s_classes : NoAttr K c.Schema "s_classes"
  e_BadSchema : ∃ fI, PySem.DLE.ErrTxt P K mg c.BadSchema fI "BadSchema" "name"
  e_BadText : ∃ fI, PySem.DLE.ErrTxt P K mg c.BadText fI "BadText" "row"
  g_ANY_NUMBER : GS mg "ANY_NUMBER" "#"
  g_FORMS : GT K mg "FORMS" ["one", "row", "set"]
  g_LETTERS : GS mg "LETTERS" "abcdefghijklmnopqrstuvwxyz"
  g_MARGIN : GS mg "MARGIN" "  "
  g_MOST_CLASSES : GI mg "MOST_CLASSES" 4
  g_MOST_LETTERS : GI mg "MOST_LETTERS" 6
  g_MOST_SLOTS : GI mg "MOST_SLOTS" 4
  g_NUMBERS : GS mg "NUMBERS" ""
  g_OWN : GS mg "OWN" "own"
  g_WHENS : GT K mg "WHENS" ["first", "later"]
  b_all : mg "all" = none
  b_enumerate : mg "enumerate" = none
  b_isinstance : mg "isinstance" = none
  b_len : mg "len" = none
  b_list : mg "list" = none
  b_min : mg "min" = none
  b_range : mg "range" = none
  b_repr : mg "repr" = none
  b_set : mg "set" = none
  b_sorted : mg "sorted" = none
  b_str : mg "str" = none
  b_tuple : mg "tuple" = none
  b_zip : mg "zip" = none
section
variable {c : Ca} {P : Program} {w : World} {K : PySem.W.Frag} {mg : Str → Option Value} {base : Heap}
theorem ds_is_name (W : Wr c P w K mg base) {f : Addr} {cdv : Value} {A : Around} {outer : List Env} {s : Shared} {H : Hp} {E : XK} (hr : Room 1 (A.deeper (envOfC "is_name" (defScope s_is_name) s.heap.objs.size f cdv))) :
    DSs (cxOf (L2.CX P w) P w K mg base n_is_name "is_name" (defScope s_is_name) f cdv A outer s H E) E (defBody s_is_name) t_is_name :=
  (dss_cons (ds_if (dw_or (dt_not (dt_val (de_isi (T := "str") (by exact rfl) W.b_isinstance (de_var (pe_var (i := 0) rfl (Or.inl rfl))) (by exact rfl) W.b_str bt_str))) (dw_or1 (dt_not (dt_chain op_leA op_leA opd_le opd_le de_int (de_cb call_len cd_len (by exact rfl) W.b_len bt_len (da_cons (de_var (pe_var (i := 0) rfl (Or.inl rfl))) da_nil)) (de_gi W.g_MOST_LETTERS))))).dt (dss_one (ds_ret de_bl)) dss_nil)
    (dss_one (ds_ret (de_cb (cr_all rfl) cd_all (by exact rfl) W.b_all bt_all (da_cons (de_lc (own := [("sign", 1)]) rfl sc_is_name.nd (di_any (de_var (pe_var (i := 0) rfl (Or.inl rfl)))) (blkOk_by (by kernel_rfl)) (fun _ _ _ _ _ => (dg_name (i := 1) sc_is_name.nd rfl (Or.inl rfl))) (fun _ _ _ _ _ => dts_nil) (fun _ _ _ _ _ => (de_cmp op_inA opd_in (de_var (pe_var (i := 1) rfl (Or.inl rfl))) (de_gs W.g_LETTERS) (by exact rfl)))) da_nil)))))
theorem ds__law_is_name (W : Wr c P w K mg base) {f : Addr} {cdv : Value} {A : Around} {outer : List Env} {s : Shared} {H : Hp} {E : XK} (hr : Room 1 (A.deeper (envOfC "_law_is_name" (defScope s__law_is_name) s.heap.objs.size f cdv))) :
    DSs (cxOf (L2.CX P w) P w K mg base n__law_is_name "_law_is_name" (defScope s__law_is_name) f cdv A outer s H E) E (defBody s__law_is_name) t__law_is_name :=
  (dss_cons (ds_if (dw_or (dt_not (dt_val (de_isi (T := "str") (by exact rfl) W.b_isinstance (de_var (pe_var (i := 0) rfl (Or.inl rfl))) (by exact rfl) W.b_str bt_str))) (dw_or1 (dt_not (dt_chain op_leA op_leA opd_le opd_le de_int (de_cb call_len cd_len (by exact rfl) W.b_len bt_len (da_cons (de_var (pe_var (i := 0) rfl (Or.inl rfl))) da_nil)) de_int)))).dt (dss_one (ds_ret de_bl)) dss_nil)
    (dss_one (ds_ret (de_cmp (op_eqM (hu_of hr)) opd_eq (de_lc (own := [("sign", 1)]) rfl sc__law_is_name.nd (di_any (de_var (pe_var (i := 0) rfl (Or.inl rfl)))) (blkOk_by (by kernel_rfl)) (fun _ _ _ _ _ => (dg_name (i := 1) sc__law_is_name.nd rfl (Or.inl rfl))) (fun _ _ _ _ _ => (dts_one (dt_cmp op_notInA opd_notIn (de_var (pe_var (i := 1) rfl (Or.inl rfl))) de_str (by exact rfl)))) (fun _ _ _ _ _ => (de_var (pe_var (i := 1) rfl (Or.inl rfl))))) (de_lst da_nil) (nomark _)))))
theorem ds_read_head (W : Wr c P w K mg base) (c_is_name : CalD P w K mg base 2 "is_name" T_is_name) {f : Addr} {cdv : Value} {A : Around} {outer : List Env} {s : Shared} {H : Hp} {E : XK} (hr : Room 2 (A.deeper (envOfC "read_head" (defScope s_read_head) s.heap.objs.size f cdv))) :
    DSs (cxOf (L2.CX P w) P w K mg base n_read_head "read_head" (defScope s_read_head) f cdv A outer s H E) E (defBody s_read_head) t_read_head :=
  (dss_cons (ds_set (i := 1) sc_read_head.nd rfl (Or.inl rfl) (de_split (de_var (pe_var (i := 0) rfl (Or.inl rfl))) de_str))
    (dss_cons (ds_if (dw_or (dt_cmp op_ltA opd_lt (de_cb call_len cd_len (by exact rfl) W.b_len bt_len (da_cons (de_var (pe_var (i := 1) rfl (Or.inl rfl))) da_nil)) de_int (nomark _)) (dw_or (dt_cmp (op_neM (hu_of hr)) opd_ne (de_ix (de_var (pe_var (i := 1) rfl (Or.inl rfl))) de_int) de_str (nomark _)) (dw_or1 (dt_not (dt_val (de_call c_is_name hr passE (da_cons (de_ix (de_var (pe_var (i := 1) rfl (Or.inl rfl))) de_int) da_nil))))))).dt (dss_one (ds_ret de_non)) dss_nil)
    (dss_cons (ds_if (dt_cmp (op_eqM (hu_of hr)) opd_eq (de_ix (de_var (pe_var (i := 1) rfl (Or.inl rfl))) de_int) (de_gs W.g_OWN) (nomark _)) (dss_one (ds_ret (de_if (dt_cmp (op_eqM (hu_of hr)) opd_eq (de_cb call_len cd_len (by exact rfl) W.b_len bt_len (da_cons (de_var (pe_var (i := 1) rfl (Or.inl rfl))) da_nil)) de_int (nomark _)) (de_tup (da_cons (de_ix (de_var (pe_var (i := 1) rfl (Or.inl rfl))) de_int) (da_cons (de_gs W.g_OWN) da_nil))) de_non))) dss_nil)
    (dss_cons (ds_if (dw_or (dt_cmp (op_neM (hu_of hr)) opd_ne (de_ix (de_var (pe_var (i := 1) rfl (Or.inl rfl))) de_int) de_str (nomark _)) (dw_or1 (dt_not (dt_val (de_cb (cr_all rfl) cd_all (by exact rfl) W.b_all bt_all (da_cons (de_lc (own := [("word", 2)]) rfl sc_read_head.nd (di_any (de_slice (de_var (pe_var (i := 1) rfl (Or.inl rfl))) (do_some de_int) do_none)) (blkOk_by (by kernel_rfl)) (fun _ _ _ _ _ => (dg_name (i := 2) sc_read_head.nd rfl (Or.inl rfl))) (fun _ _ _ _ _ => dts_nil) (fun _ _ _ _ _ => (de_call c_is_name hr passL (da_cons (de_var (pe_var (i := 2) rfl (Or.inl rfl))) da_nil)))) da_nil)))))).dt (dss_one (ds_ret de_non)) dss_nil)
    (dss_one (ds_ret (de_tup (da_cons (de_ix (de_var (pe_var (i := 1) rfl (Or.inl rfl))) de_int) (da_cons (de_ct call_tuple_of cd_tuple (by exact rfl) W.b_tuple bt_tuple (da_cons (de_slice (de_var (pe_var (i := 1) rfl (Or.inl rfl))) (do_some de_int) do_none) da_nil)) da_nil)))))))))
theorem ds_read_slot (W : Wr c P w K mg base) (c_is_name : CalD P w K mg base 2 "is_name" T_is_name) {f : Addr} {cdv : Value} {A : Around} {outer : List Env} {s : Shared} {H : Hp} {E : XK} (hr : Room 2 (A.deeper (envOfC "read_slot" (defScope s_read_slot) s.heap.objs.size f cdv))) :
    DSs (cxOf (L2.CX P w) P w K mg base n_read_slot "read_slot" (defScope s_read_slot) f cdv A outer s H E) E (defBody s_read_slot) t_read_slot :=
  (dss_cons (ds_set (i := 1) sc_read_slot.nd rfl (Or.inl rfl) (de_split (de_slice (de_var (pe_var (i := 0) rfl (Or.inl rfl))) (do_some (de_cb call_len cd_len (by exact rfl) W.b_len bt_len (da_cons (de_gs W.g_MARGIN) da_nil))) do_none) de_str))
    (dss_cons (ds_if (dw_or (dt_cmp (op_neM (hu_of hr)) opd_ne (de_slice (de_var (pe_var (i := 0) rfl (Or.inl rfl))) do_none (do_some (de_cb call_len cd_len (by exact rfl) W.b_len bt_len (da_cons (de_gs W.g_MARGIN) da_nil)))) (de_gs W.g_MARGIN) (nomark _)) (dw_or (dt_cmp op_ltA opd_lt (de_cb call_len cd_len (by exact rfl) W.b_len bt_len (da_cons (de_var (pe_var (i := 1) rfl (Or.inl rfl))) da_nil)) de_int (nomark _)) (dw_or1 (dt_not (dt_val (de_call c_is_name hr passE (da_cons (de_ix (de_var (pe_var (i := 1) rfl (Or.inl rfl))) de_int) da_nil))))))).dt (dss_one (ds_ret de_non)) dss_nil)
    (dss_cons (ds_if (dw_or (dt_cmp op_notInA opd_notIn (de_ix (de_var (pe_var (i := 1) rfl (Or.inl rfl))) de_int) (de_gt W.g_WHENS) (by exact rfl)) (dw_or1 (dt_cmp op_notInA opd_notIn (de_ix (de_var (pe_var (i := 1) rfl (Or.inl rfl))) de_int) (de_gt W.g_FORMS) (by exact rfl)))).dt (dss_one (ds_ret de_non)) dss_nil)
    (dss_cons (ds_if (dt_not (dt_val (de_cb (cr_all rfl) cd_all (by exact rfl) W.b_all bt_all (da_cons (de_lc (own := [("word", 2)]) rfl sc_read_slot.nd (di_any (de_slice (de_var (pe_var (i := 1) rfl (Or.inl rfl))) (do_some de_int) do_none)) (blkOk_by (by kernel_rfl)) (fun _ _ _ _ _ => (dg_name (i := 2) sc_read_slot.nd rfl (Or.inl rfl))) (fun _ _ _ _ _ => dts_nil) (fun _ _ _ _ _ => (de_or (de_cmp (op_eqM (hu_of hr)) opd_eq (de_var (pe_var (i := 2) rfl (Or.inl rfl))) (de_gs W.g_ANY_NUMBER) (nomark _)) (de_one (de_call c_is_name hr passL (da_cons (de_var (pe_var (i := 2) rfl (Or.inl rfl))) da_nil)))))) da_nil)))) (dss_one (ds_ret de_non)) dss_nil)
    (dss_one (ds_ret (de_tup (da_cons (de_ix (de_var (pe_var (i := 1) rfl (Or.inl rfl))) de_int) (da_cons (de_ix (de_var (pe_var (i := 1) rfl (Or.inl rfl))) de_int) (da_cons (de_ix (de_var (pe_var (i := 1) rfl (Or.inl rfl))) de_int) (da_cons (de_ct call_tuple_of cd_tuple (by exact rfl) W.b_tuple bt_tuple (da_cons (de_lc (own := [("word", 2)]) rfl sc_read_slot.nd (di_any (de_slice (de_var (pe_var (i := 1) rfl (Or.inl rfl))) (do_some de_int) do_none)) (blkOk_by (by kernel_rfl)) (fun _ _ _ _ _ => (dg_name (i := 2) sc_read_slot.nd rfl (Or.inl rfl))) (fun _ _ _ _ _ => dts_nil) (fun _ _ _ _ _ => (de_if (dt_cmp (op_eqM (hu_of hr)) opd_eq (de_var (pe_var (i := 2) rfl (Or.inl rfl))) (de_gs W.g_ANY_NUMBER) (nomark _)) (de_gs W.g_NUMBERS) (de_var (pe_var (i := 2) rfl (Or.inl rfl)))))) da_nil)) da_nil)))))))))))
theorem ds_split_text (W : Wr c P w K mg base) {f : Addr} {cdv : Value} {A : Around} {outer : List Env} {s : Shared} {H : Hp} {E : XK} (hr : Room 1 (A.deeper (envOfC "split_text" (defScope s_split_text) s.heap.objs.size f cdv))) :
    DSs (cxOf (L2.CX P w) P w K mg base n_split_text "split_text" (defScope s_split_text) f cdv A outer s H E) E (defBody s_split_text) t_split_text :=
  (dss_cons (ds_set (i := 1) sc_split_text.nd rfl (Or.inl rfl) (de_split (de_var (pe_var (i := 0) rfl (Or.inl rfl))) de_str))
    (dss_one (ds_ret (de_if (dt_cmp (op_eqM (hu_of hr)) opd_eq (de_ix (de_var (pe_var (i := 1) rfl (Or.inl rfl))) de_neg) de_str (nomark _)) (de_tup (da_cons (de_slice (de_var (pe_var (i := 1) rfl (Or.inl rfl))) do_none (do_some de_neg)) (da_cons de_bl da_nil))) (de_tup (da_cons (de_var (pe_var (i := 1) rfl (Or.inl rfl))) (da_cons de_bl da_nil)))))))
theorem ds_is_ascending (W : Wr c P w K mg base) {f : Addr} {cdv : Value} {A : Around} {outer : List Env} {s : Shared} {H : Hp} {E : XK} (hr : Room 1 (A.deeper (envOfC "is_ascending" (defScope s_is_ascending) s.heap.objs.size f cdv))) :
    DSs (cxOf (L2.CX P w) P w K mg base n_is_ascending "is_ascending" (defScope s_is_ascending) f cdv A outer s H E) E (defBody s_is_ascending) t_is_ascending :=
  (dss_cons (ds_if (dw_or (dt_not (dt_val (de_isi (T := "tuple") (by exact rfl) W.b_isinstance (de_var (pe_var (i := 0) rfl (Or.inl rfl))) (by exact rfl) W.b_tuple bt_tuple))) (dw_or1 (dt_not (dt_val (de_cb (cr_all rfl) cd_all (by exact rfl) W.b_all bt_all (da_cons (de_lc (own := [("one", 1)]) rfl sc_is_ascending.nd (di_any (de_var (pe_var (i := 0) rfl (Or.inl rfl)))) (blkOk_by (by kernel_rfl)) (fun _ _ _ _ _ => (dg_name (i := 1) sc_is_ascending.nd rfl (Or.inl rfl))) (fun _ _ _ _ _ => dts_nil) (fun _ _ _ _ _ => (de_isi (T := "str") (by exact rfl) W.b_isinstance (de_var (pe_var (i := 1) rfl (Or.inl rfl))) (by exact rfl) W.b_str bt_str))) da_nil)))))).dt (dss_one (ds_ret de_bl)) dss_nil)
    (dss_one (ds_ret (de_cb (cr_all rfl) cd_all (by exact rfl) W.b_all bt_all (da_cons (de_lc (own := [("one", 1), ("other", 2)]) rfl sc_is_ascending.nd (di_zip (by exact rfl) W.b_zip (da_cons (de_var (pe_var (i := 0) rfl (Or.inl rfl))) (da_cons (de_slice (de_var (pe_var (i := 0) rfl (Or.inl rfl))) (do_some de_int) do_none) da_nil))) (blkOk_by (by kernel_rfl)) (fun _ _ _ _ _ => (dg_tup rfl (dgs_cons (dg_name (i := 1) sc_is_ascending.nd rfl (Or.inl rfl)) (dgs_cons (dg_name (i := 2) sc_is_ascending.nd rfl (Or.inl rfl)) dgs_nil)))) (fun _ _ _ _ _ => dts_nil) (fun _ _ _ _ _ => (de_cmp op_ltA opd_lt (de_var (pe_var (i := 1) rfl (Or.inl rfl))) (de_var (pe_var (i := 2) rfl (Or.inl rfl))) (nomark _)))) da_nil)))))
theorem ds_is_slot (W : Wr c P w K mg base) (c_is_ascending : CalD P w K mg base 2 "is_ascending" T_is_ascending) (c_is_name : CalD P w K mg base 2 "is_name" T_is_name) {f : Addr} {cdv : Value} {A : Around} {outer : List Env} {s : Shared} {H : Hp} {E : XK} (hr : Room 2 (A.deeper (envOfC "is_slot" (defScope s_is_slot) s.heap.objs.size f cdv))) :
    DSs (cxOf (L2.CX P w) P w K mg base n_is_slot "is_slot" (defScope s_is_slot) f cdv A outer s H E) E (defBody s_is_slot) t_is_slot :=
  (dss_cons (ds_if (dw_or (dt_not (dt_val (de_isi (T := "tuple") (by exact rfl) W.b_isinstance (de_var (pe_var (i := 1) rfl (Or.inl rfl))) (by exact rfl) W.b_tuple bt_tuple))) (dw_or (dt_cmp (op_neM (hu_of hr)) opd_ne (de_cb call_len cd_len (by exact rfl) W.b_len bt_len (da_cons (de_var (pe_var (i := 1) rfl (Or.inl rfl))) da_nil)) de_int (nomark _)) (dw_or1 (dt_not (dt_val (de_call c_is_name hr passE (da_cons (de_ix (de_var (pe_var (i := 1) rfl (Or.inl rfl))) de_int) da_nil))))))).dt (dss_one (ds_ret de_bl)) dss_nil)
    (dss_cons (ds_asg (de_var (pe_var (i := 1) rfl (Or.inl rfl))) (dg_tup rfl (dgs_cons (dg_name (i := 2) sc_is_slot.nd rfl (Or.inl rfl)) (dgs_cons (dg_name (i := 3) sc_is_slot.nd rfl (Or.inl rfl)) (dgs_cons (dg_name (i := 4) sc_is_slot.nd rfl (Or.inl rfl)) (dgs_cons (dg_name (i := 5) sc_is_slot.nd rfl (Or.inl rfl)) dgs_nil))))))
    (dss_cons (ds_if (dw_or (dt_not (dt_val (de_isi (T := "str") (by exact rfl) W.b_isinstance (de_var (pe_var (i := 3) rfl (Or.inl rfl))) (by exact rfl) W.b_str bt_str))) (dw_or (dt_cmp op_notInA opd_notIn (de_var (pe_var (i := 3) rfl (Or.inl rfl))) (de_gt W.g_WHENS) (by exact rfl)) (dw_or (dt_not (dt_val (de_isi (T := "str") (by exact rfl) W.b_isinstance (de_var (pe_var (i := 4) rfl (Or.inl rfl))) (by exact rfl) W.b_str bt_str))) (dw_or1 (dt_cmp op_notInA opd_notIn (de_var (pe_var (i := 4) rfl (Or.inl rfl))) (de_gt W.g_FORMS) (by exact rfl)))))).dt (dss_one (ds_ret de_bl)) dss_nil)
    (dss_cons (ds_if (dw_or (dt_not (dt_val (de_call c_is_ascending hr passE (da_cons (de_var (pe_var (i := 5) rfl (Or.inl rfl))) da_nil)))) (dw_or1 (dt_cmp (op_eqM (hu_of hr)) opd_eq (de_var (pe_var (i := 5) rfl (Or.inl rfl))) (de_tup da_nil) (nomark _)))).dt (dss_one (ds_ret de_bl)) dss_nil)
    (dss_one (ds_ret (de_cb (cr_all rfl) cd_all (by exact rfl) W.b_all bt_all (da_cons (de_lc (own := [("target", 6)]) rfl sc_is_slot.nd (di_any (de_var (pe_var (i := 5) rfl (Or.inl rfl)))) (blkOk_by (by kernel_rfl)) (fun _ _ _ _ _ => (dg_name (i := 6) sc_is_slot.nd rfl (Or.inl rfl))) (fun _ _ _ _ _ => dts_nil) (fun _ _ _ _ _ => (de_or (de_cmp (op_eqM (hu_of hr)) opd_eq (de_var (pe_var (i := 6) rfl (Or.inl rfl))) (de_gs W.g_NUMBERS) (nomark _)) (de_one (de_cmp op_inA opd_in (de_var (pe_var (i := 6) rfl (Or.inl rfl))) (de_var (pe_var (i := 0) rfl (Or.inr (Or.inl rfl)))) (by exact rfl)))))) da_nil))))))))
theorem ds_is_hash (W : Wr c P w K mg base) (c_is_ascending : CalD P w K mg base 2 "is_ascending" T_is_ascending) {f : Addr} {cdv : Value} {A : Around} {outer : List Env} {s : Shared} {H : Hp} {E : XK} (hr : Room 2 (A.deeper (envOfC "is_hash" (defScope s_is_hash) s.heap.objs.size f cdv))) :
    DSs (cxOf (L2.CX P w) P w K mg base n_is_hash "is_hash" (defScope s_is_hash) f cdv A outer s H E) E (defBody s_is_hash) t_is_hash :=
  (dss_cons (ds_if (dt_val (de_isi (T := "str") (by exact rfl) W.b_isinstance (de_var (pe_var (i := 1) rfl (Or.inl rfl))) (by exact rfl) W.b_str bt_str)) (dss_one (ds_ret (de_cmp (op_eqM (hu_of hr)) opd_eq (de_var (pe_var (i := 1) rfl (Or.inl rfl))) (de_gs W.g_OWN) (nomark _)))) dss_nil)
    (dss_one (ds_ret (de_and (de_call c_is_ascending hr passE (da_cons (de_var (pe_var (i := 1) rfl (Or.inl rfl))) da_nil)) (de_one (de_cb (cr_all rfl) cd_all (by exact rfl) W.b_all bt_all (da_cons (de_lc (own := [("name", 2)]) rfl sc_is_hash.nd (di_any (de_var (pe_var (i := 1) rfl (Or.inl rfl)))) (blkOk_by (by kernel_rfl)) (fun _ _ _ _ _ => (dg_name (i := 2) sc_is_hash.nd rfl (Or.inl rfl))) (fun _ _ _ _ _ => dts_nil) (fun _ _ _ _ _ => (de_cmp op_inA opd_in (de_var (pe_var (i := 2) rfl (Or.inl rfl))) (de_lc (own := [("slot", 3)]) rfl sc_is_hash.nd (di_any (de_var (pe_var (i := 0) rfl (Or.inr (Or.inl rfl))))) (blkOk_by (by kernel_rfl)) (fun _ _ _ _ _ => (dg_name (i := 3) sc_is_hash.nd rfl (Or.inl rfl))) (fun _ _ _ _ _ => dts_nil) (fun _ _ _ _ _ => (de_ix (de_var (pe_var (i := 3) rfl (Or.inl rfl))) de_int))) (by exact rfl)))) da_nil)))))))
theorem ds__law_head_of (W : Wr c P w K mg base) (c__law_is_name : CalD P w K mg base 2 "_law_is_name" T__law_is_name) {f : Addr} {cdv : Value} {A : Around} {outer : List Env} {s : Shared} {H : Hp} {E : XK} (hr : Room 2 (A.deeper (envOfC "_law_head_of" (defScope s__law_head_of) s.heap.objs.size f cdv))) :
    DSs (cxOf (L2.CX P w) P w K mg base n__law_head_of "_law_head_of" (defScope s__law_head_of) f cdv A outer s H E) E (defBody s__law_head_of) t__law_head_of :=
  (dss_cons (ds_set (i := 1) sc__law_head_of.nd rfl (Or.inl rfl) (de_split (de_var (pe_var (i := 0) rfl (Or.inl rfl))) de_str))
    (dss_cons (ds_if (dw_or (dt_cmp op_ltA opd_lt (de_cb call_len cd_len (by exact rfl) W.b_len bt_len (da_cons (de_var (pe_var (i := 1) rfl (Or.inl rfl))) da_nil)) de_int (nomark _)) (dw_or (dt_cmp (op_neM (hu_of hr)) opd_ne (de_ix (de_var (pe_var (i := 1) rfl (Or.inl rfl))) de_int) de_str (nomark _)) (dw_or1 (dt_not (dt_val (de_call c__law_is_name hr passE (da_cons (de_ix (de_var (pe_var (i := 1) rfl (Or.inl rfl))) de_int) da_nil))))))).dt (dss_one (ds_ret de_non)) dss_nil)
    (dss_cons (ds_if (dw_and (dt_cmp (op_eqM (hu_of hr)) opd_eq (de_ix (de_var (pe_var (i := 1) rfl (Or.inl rfl))) de_int) de_str (nomark _)) (dw_and1 (dt_cmp (op_eqM (hu_of hr)) opd_eq (de_cb call_len cd_len (by exact rfl) W.b_len bt_len (da_cons (de_var (pe_var (i := 1) rfl (Or.inl rfl))) da_nil)) de_int (nomark _)))).dt (dss_one (ds_ret (de_tup (da_cons (de_ix (de_var (pe_var (i := 1) rfl (Or.inl rfl))) de_int) (da_cons de_str da_nil))))) dss_nil)
    (dss_cons (ds_if (dw_or (dt_cmp (op_neM (hu_of hr)) opd_ne (de_ix (de_var (pe_var (i := 1) rfl (Or.inl rfl))) de_int) de_str (nomark _)) (dw_or1 (dt_cmp (op_neM (hu_of hr)) opd_ne (de_lc (own := [("word", 2)]) rfl sc__law_head_of.nd (di_any (de_slice (de_var (pe_var (i := 1) rfl (Or.inl rfl))) (do_some de_int) do_none)) (blkOk_by (by kernel_rfl)) (fun _ _ _ _ _ => (dg_name (i := 2) sc__law_head_of.nd rfl (Or.inl rfl))) (fun _ _ _ _ _ => (dts_one (dt_not (dt_val (de_call c__law_is_name hr passL (da_cons (de_var (pe_var (i := 2) rfl (Or.inl rfl))) da_nil)))))) (fun _ _ _ _ _ => (de_var (pe_var (i := 2) rfl (Or.inl rfl))))) (de_lst da_nil) (nomark _)))).dt (dss_one (ds_ret de_non)) dss_nil)
    (dss_one (ds_ret (de_tup (da_cons (de_ix (de_var (pe_var (i := 1) rfl (Or.inl rfl))) de_int) (da_cons (de_ct call_tuple_of cd_tuple (by exact rfl) W.b_tuple bt_tuple (da_cons (de_slice (de_var (pe_var (i := 1) rfl (Or.inl rfl))) (do_some de_int) do_none) da_nil)) da_nil)))))))))
theorem ds__law_hole_of (W : Wr c P w K mg base) (c__law_is_name : CalD P w K mg base 2 "_law_is_name" T__law_is_name) {f : Addr} {cdv : Value} {A : Around} {outer : List Env} {s : Shared} {H : Hp} {E : XK} (hr : Room 2 (A.deeper (envOfC "_law_hole_of" (defScope s__law_hole_of) s.heap.objs.size f cdv))) :
    DSs (cxOf (L2.CX P w) P w K mg base n__law_hole_of "_law_hole_of" (defScope s__law_hole_of) f cdv A outer s H E) E (defBody s__law_hole_of) t__law_hole_of :=
  (dss_cons (ds_set (i := 1) sc__law_hole_of.nd rfl (Or.inl rfl) (de_split (de_slice (de_var (pe_var (i := 0) rfl (Or.inl rfl))) (do_some de_int) do_none) de_str))
    (dss_cons (ds_if (dw_or (dt_cmp (op_neM (hu_of hr)) opd_ne (de_slice (de_var (pe_var (i := 0) rfl (Or.inl rfl))) do_none (do_some de_int)) de_str (nomark _)) (dw_or (dt_cmp op_ltA opd_lt (de_cb call_len cd_len (by exact rfl) W.b_len bt_len (da_cons (de_var (pe_var (i := 1) rfl (Or.inl rfl))) da_nil)) de_int (nomark _)) (dw_or1 (dt_not (dt_val (de_call c__law_is_name hr passE (da_cons (de_ix (de_var (pe_var (i := 1) rfl (Or.inl rfl))) de_int) da_nil))))))).dt (dss_one (ds_ret de_non)) dss_nil)
    (dss_cons (ds_if (dw_or (dt_cmp op_notInA opd_notIn (de_ix (de_var (pe_var (i := 1) rfl (Or.inl rfl))) de_int) (de_tup (da_cons de_str (da_cons de_str da_nil))) (by exact rfl)) (dw_or1 (dt_cmp op_notInA opd_notIn (de_ix (de_var (pe_var (i := 1) rfl (Or.inl rfl))) de_int) (de_tup (da_cons de_str (da_cons de_str (da_cons de_str da_nil)))) (by exact rfl)))).dt (dss_one (ds_ret de_non)) dss_nil)
    (dss_cons (ds_if (dt_cmp (op_neM (hu_of hr)) opd_ne (de_lc (own := [("word", 2)]) rfl sc__law_hole_of.nd (di_any (de_slice (de_var (pe_var (i := 1) rfl (Or.inl rfl))) (do_some de_int) do_none)) (blkOk_by (by kernel_rfl)) (fun _ _ _ _ _ => (dg_name (i := 2) sc__law_hole_of.nd rfl (Or.inl rfl))) (fun _ _ _ _ _ => (dts_one (dw_and (dt_cmp (op_neM (hu_of hr)) opd_ne (de_var (pe_var (i := 2) rfl (Or.inl rfl))) de_str (nomark _)) (dw_and1 (dt_not (dt_val (de_call c__law_is_name hr passL (da_cons (de_var (pe_var (i := 2) rfl (Or.inl rfl))) da_nil)))))).dt)) (fun _ _ _ _ _ => (de_var (pe_var (i := 2) rfl (Or.inl rfl))))) (de_lst da_nil) (nomark _)) (dss_one (ds_ret de_non)) dss_nil)
    (dss_one (ds_ret (de_tup (da_cons (de_ix (de_var (pe_var (i := 1) rfl (Or.inl rfl))) de_int) (da_cons (de_ix (de_var (pe_var (i := 1) rfl (Or.inl rfl))) de_int) (da_cons (de_ix (de_var (pe_var (i := 1) rfl (Or.inl rfl))) de_int) (da_cons (de_ct call_tuple_of cd_tuple (by exact rfl) W.b_tuple bt_tuple (da_cons (de_lc (own := [("word", 2)]) rfl sc__law_hole_of.nd (di_any (de_slice (de_var (pe_var (i := 1) rfl (Or.inl rfl))) (do_some de_int) do_none)) (blkOk_by (by kernel_rfl)) (fun _ _ _ _ _ => (dg_name (i := 2) sc__law_hole_of.nd rfl (Or.inl rfl))) (fun _ _ _ _ _ => dts_nil) (fun _ _ _ _ _ => (de_if (dt_cmp (op_eqM (hu_of hr)) opd_eq (de_var (pe_var (i := 2) rfl (Or.inl rfl))) de_str (nomark _)) de_str (de_var (pe_var (i := 2) rfl (Or.inl rfl)))))) da_nil)) da_nil)))))))))))
theorem ds_are_slots (W : Wr c P w K mg base) (c_is_slot : CalD P w K mg base 3 "is_slot" T_is_slot) {f : Addr} {cdv : Value} {A : Around} {outer : List Env} {s : Shared} {H : Hp} {E : XK} (hr : Room 3 (A.deeper (envOfC "are_slots" (defScope s_are_slots) s.heap.objs.size f cdv))) :
    DSs (cxOf (L2.CX P w) P w K mg base n_are_slots "are_slots" (defScope s_are_slots) f cdv A outer s H E) E (defBody s_are_slots) t_are_slots :=
  (dss_cons (ds_if (dw_or (dt_not (dt_val (de_isi (T := "tuple") (by exact rfl) W.b_isinstance (de_var (pe_var (i := 1) rfl (Or.inl rfl))) (by exact rfl) W.b_tuple bt_tuple))) (dw_or (dt_cmp op_gtA opd_gt (de_cb call_len cd_len (by exact rfl) W.b_len bt_len (da_cons (de_var (pe_var (i := 1) rfl (Or.inl rfl))) da_nil)) (de_gi W.g_MOST_SLOTS) (nomark _)) (dw_or1 (dt_not (dt_val (de_cb (cr_all rfl) cd_all (by exact rfl) W.b_all bt_all (da_cons (de_lc (own := [("one", 2)]) rfl sc_are_slots.nd (di_any (de_var (pe_var (i := 1) rfl (Or.inl rfl)))) (blkOk_by (by kernel_rfl)) (fun _ _ _ _ _ => (dg_name (i := 2) sc_are_slots.nd rfl (Or.inl rfl))) (fun _ _ _ _ _ => dts_nil) (fun _ _ _ _ _ => (de_call c_is_slot hr passL (da_cons (de_var (pe_var (i := 0) rfl (Or.inr (Or.inl rfl)))) (da_cons (de_var (pe_var (i := 2) rfl (Or.inl rfl))) da_nil))))) da_nil))))))).dt (dss_one (ds_ret de_bl)) dss_nil)
    (dss_one (ds_ret (de_cmp (op_eqM (hu_of hr)) opd_eq (de_cb call_lenD cd_lenD (by exact rfl) W.b_len bt_len (da_cons (de_dc (own := [("one", 2)]) rfl sc_are_slots.nd (di_any (de_var (pe_var (i := 1) rfl (Or.inl rfl)))) (blkOk_by (by kernel_rfl)) (fun _ _ _ _ _ => (dg_name (i := 2) sc_are_slots.nd rfl (Or.inl rfl))) (fun _ _ _ _ _ => dts_nil) (fun _ _ _ _ _ => (de_ix (de_var (pe_var (i := 2) rfl (Or.inl rfl))) de_int)) (fun _ _ _ _ _ => de_bl)) da_nil)) (de_cb call_len cd_len (by exact rfl) W.b_len bt_len (da_cons (de_var (pe_var (i := 1) rfl (Or.inl rfl))) da_nil)) (nomark _)))))
theorem ds_is_class (W : Wr c P w K mg base) (c_are_slots : CalD P w K mg base 4 "are_slots" T_are_slots) (c_is_hash : CalD P w K mg base 3 "is_hash" T_is_hash) {f : Addr} {cdv : Value} {A : Around} {outer : List Env} {s : Shared} {H : Hp} {E : XK} (hr : Room 4 (A.deeper (envOfC "is_class" (defScope s_is_class) s.heap.objs.size f cdv))) :
    DSs (cxOf (L2.CX P w) P w K mg base n_is_class "is_class" (defScope s_is_class) f cdv A outer s H E) E (defBody s_is_class) t_is_class :=
  (dss_one (ds_ret (de_and (de_call c_are_slots hr passE (da_cons (de_var (pe_var (i := 0) rfl (Or.inl rfl))) (da_cons (de_ix (de_var (pe_var (i := 1) rfl (Or.inl rfl))) de_int) da_nil))) (de_one (de_call c_is_hash hr passE (da_cons (de_ix (de_var (pe_var (i := 1) rfl (Or.inl rfl))) de_int) (da_cons (de_ix (de_var (pe_var (i := 1) rfl (Or.inl rfl))) de_int) da_nil)))))))
theorem ds_are_named (W : Wr c P w K mg base) (c_is_name : CalD P w K mg base 2 "is_name" T_is_name) {f : Addr} {cdv : Value} {A : Around} {outer : List Env} {s : Shared} {H : Hp} {E : XK} (hr : Room 2 (A.deeper (envOfC "are_named" (defScope s_are_named) s.heap.objs.size f cdv))) :
    DSs (cxOf (L2.CX P w) P w K mg base n_are_named "are_named" (defScope s_are_named) f cdv A outer s H E) E (defBody s_are_named) t_are_named :=
  (dss_cons (ds_if (dw_or (dt_not (dt_val (de_isi2 (T := "list") (U := "tuple") (by exact rfl) W.b_isinstance (de_var (pe_var (i := 0) rfl (Or.inl rfl))) (by exact rfl) W.b_list bt_list (by exact rfl) W.b_tuple bt_tuple))) (dw_or1 (dt_not (dt_chain op_leA op_leA opd_le opd_le de_int (de_cb call_len cd_len (by exact rfl) W.b_len bt_len (da_cons (de_var (pe_var (i := 0) rfl (Or.inl rfl))) da_nil)) (de_gi W.g_MOST_CLASSES))))).dt (dss_one (ds_ret de_bl)) dss_nil)
    (dss_cons (ds_if (dt_not (dt_val (de_cb (cr_all rfl) cd_all (by exact rfl) W.b_all bt_all (da_cons (de_lc (own := [("one", 1)]) rfl sc_are_named.nd (di_any (de_var (pe_var (i := 0) rfl (Or.inl rfl)))) (blkOk_by (by kernel_rfl)) (fun _ _ _ _ _ => (dg_name (i := 1) sc_are_named.nd rfl (Or.inl rfl))) (fun _ _ _ _ _ => dts_nil) (fun _ _ _ _ _ => (de_and (de_isi (T := "tuple") (by exact rfl) W.b_isinstance (de_var (pe_var (i := 1) rfl (Or.inl rfl))) (by exact rfl) W.b_tuple bt_tuple) (de_and (de_cmp (op_eqM (hu_of hr)) opd_eq (de_cb call_len cd_len (by exact rfl) W.b_len bt_len (da_cons (de_var (pe_var (i := 1) rfl (Or.inl rfl))) da_nil)) de_int (nomark _)) (de_one (de_call c_is_name hr passL (da_cons (de_ix (de_var (pe_var (i := 1) rfl (Or.inl rfl))) de_int) da_nil))))))) da_nil)))) (dss_one (ds_ret de_bl)) dss_nil)
    (dss_one (ds_ret (de_cb (cr_all rfl) cd_all (by exact rfl) W.b_all bt_all (da_cons (de_lc (own := [("one", 1), ("other", 2)]) rfl sc_are_named.nd (di_zip (by exact rfl) W.b_zip (da_cons (de_var (pe_var (i := 0) rfl (Or.inl rfl))) (da_cons (de_slice (de_var (pe_var (i := 0) rfl (Or.inl rfl))) (do_some de_int) do_none) da_nil))) (blkOk_by (by kernel_rfl)) (fun _ _ _ _ _ => (dg_tup rfl (dgs_cons (dg_name (i := 1) sc_are_named.nd rfl (Or.inl rfl)) (dgs_cons (dg_name (i := 2) sc_are_named.nd rfl (Or.inl rfl)) dgs_nil)))) (fun _ _ _ _ _ => dts_nil) (fun _ _ _ _ _ => (de_cmp op_ltA opd_lt (de_ix (de_var (pe_var (i := 1) rfl (Or.inl rfl))) de_int) (de_ix (de_var (pe_var (i := 2) rfl (Or.inl rfl))) de_int) (nomark _)))) da_nil))))))
theorem ds_Schema___init__ (W : Wr c P w K mg base) (c_are_named : CalD P w K mg base 3 "are_named" T_are_named) (c_is_class : CalD P w K mg base 5 "is_class" T_is_class) {f : Addr} {cdv : Value} {A : Around} {outer : List Env} {s : Shared} {H : Hp} {E : XK} (hr : Room 5 (A.deeper (envOfC "Schema.__init__" (defScope s_Schema___init__) s.heap.objs.size f cdv))) :
    DSs (cxOf (L2.CX P w) P w K mg base n_Schema___init__ "Schema.__init__" (defScope s_Schema___init__) f cdv A outer s H E) E (defBody s_Schema___init__) (t_Schema___init__ c) :=
  (dss_cons (ds_if (dt_not (dt_val (de_call c_are_named hr passE (da_cons (de_var (pe_var (i := 1) rfl (Or.inl rfl))) da_nil)))) (dss_one (ds_raise2 rfl W.e_BadSchema hr (takes_of rfl rfl rfl rfl) de_non (by exact rfl))) dss_nil)
    (dss_cons (ds_setLc (i := 2) (own := [("one", 3)]) rfl sc_Schema___init__.nd rfl rfl rfl (di_any (de_var (pe_var (i := 1) rfl (Or.inl rfl)))) (blkOk_by (by kernel_rfl)) (fun _ _ _ _ _ => (dg_name (i := 3) sc_Schema___init__.nd rfl (Or.inl rfl))) (fun _ _ _ _ _ => dts_nil) (fun _ _ _ _ _ => (de_ix (de_var (pe_var (i := 3) rfl (Or.inl rfl))) de_int)))
    (dss_cons (ds_for owE rfl (di_any (de_var (pe_var (i := 1) rfl (Or.inl rfl)))) (dg_name (i := 3) sc_Schema___init__.nd rfl (Or.inl rfl)) (dss_one (ds_if (dt_not (dt_val (de_call c_is_class hr passE (da_cons (de_var (pe_var (i := 2) rfl (Or.inl rfl))) (da_cons (de_var (pe_var (i := 3) rfl (Or.inl rfl))) da_nil))))) (dss_one (ds_raise2 rfl W.e_BadSchema hr (takes_of rfl rfl rfl rfl) (de_ix (de_var (pe_var (i := 3) rfl (Or.inl rfl))) de_int) (by exact rfl))) dss_nil)))
    (dss_one (ds_setF W.cl_Schema W.na_Schema_s_classes (de_var (pe_var (i := 0) rfl (Or.inl rfl))) (de_ct call_tuple_of cd_tuple (by exact rfl) W.b_tuple bt_tuple (da_cons (de_var (pe_var (i := 1) rfl (Or.inl rfl))) da_nil)))))))
theorem ds_Schema___eq__ (W : Wr c P w K mg base) {f : Addr} {cdv : Value} {A : Around} {outer : List Env} {s : Shared} {H : Hp} {E : XK} (hr : Room 1 (A.deeper (envOfC "Schema.__eq__" (defScope s_Schema___eq__) s.heap.objs.size f cdv))) :
    DSs (cxOf (L2.CX P w) P w K mg base n_Schema___eq__ "Schema.__eq__" (defScope s_Schema___eq__) f cdv A outer s H E) E (defBody s_Schema___eq__) (t_Schema___eq__ c) :=
  (dss_one (ds_ret (de_and (de_isiC (by exact rfl) W.b_isinstance (de_var (pe_var (i := 1) rfl (Or.inl rfl))) (by exact rfl) W.gc_Schema W.ci_Schema) (de_one (de_cmp (op_eqT (hu_of hr)) opd_eqT (de_fld W.cl_Schema W.na_Schema_s_classes (de_var (pe_var (i := 0) rfl (Or.inl rfl)))) (de_fld W.cl_Schema W.na_Schema_s_classes (de_var (pe_var (i := 1) rfl (Or.inl rfl)))) (nomark _))))))
theorem ds_read_schema (W : Wr c P w K mg base) (c_Schema___init__ : MakD P w K mg base 6 "Schema" c.Schema (T_Schema c)) (c_read_head : CalD P w K mg base 3 "read_head" T_read_head) (c_read_slot : CalD P w K mg base 3 "read_slot" T_read_slot) (c_split_text : CalD P w K mg base 2 "split_text" T_split_text) {f : Addr} {cdv : Value} {A : Around} {outer : List Env} {s : Shared} {H : Hp} {E : XK} (hr : Room 7 (A.deeper (envOfC "read_schema" (defScope s_read_schema) s.heap.objs.size f cdv))) :
    DSs (cxOf (L2.CX P w) P w K mg base n_read_schema "read_schema" (defScope s_read_schema) f cdv A outer s H E) E (defBody s_read_schema) (t_read_schema c) :=
  (dss_cons (ds_if (dw_or (dt_not (dt_val (de_isi (T := "str") (by exact rfl) W.b_isinstance (de_var (pe_var (i := 0) rfl (Or.inl rfl))) (by exact rfl) W.b_str bt_str))) (dw_or1 (dt_cmp (op_eqM (hu_of hr)) opd_eq (de_var (pe_var (i := 0) rfl (Or.inl rfl))) de_str (nomark _)))).dt (dss_one (ds_raise2 rfl W.e_BadText hr (takes_of rfl rfl rfl rfl) de_int (by exact rfl))) dss_nil)
    (dss_cons (ds_asgDO (i := 1) rfl sc_read_schema.nd rfl (Or.inl rfl) (dg_tup rfl (dgs_cons (dg_name (i := 4) sc_read_schema.nd rfl (Or.inl rfl)) (dgs_cons (dg_name (i := 5) sc_read_schema.nd rfl (Or.inl rfl)) dgs_nil))) (de_call c_split_text hr passE (da_cons (de_var (pe_var (i := 0) rfl (Or.inl rfl))) da_nil)) (df_lst da_nil))
    (dss_cons (ds_for owE rfl (di_enum (by exact rfl) W.b_enumerate (da_cons (de_var (pe_var (i := 4) rfl (Or.inl rfl))) da_nil)) (dg_tup rfl (dgs_cons (dg_name (i := 2) sc_read_schema.nd rfl (Or.inl rfl)) (dgs_cons (dg_name (i := 3) sc_read_schema.nd rfl (Or.inl rfl)) dgs_nil))) (dss_cons (ds_par (i := 6) (j := 7) rfl sc_read_schema.nd rfl rfl (by decide) rfl rfl (dp_d (de_call c_read_head hr passE (da_cons (de_var (pe_var (i := 3) rfl (Or.inl rfl))) da_nil)) (dp_d (de_call c_read_slot hr passE (da_cons (de_var (pe_var (i := 3) rfl (Or.inl rfl))) da_nil)) dp_nil)) rfl)
    (dss_cons (ds_if (dw_and (dt_cmp L2.op_isN opd_is (de_var (pe_var (i := 6) rfl (Or.inl rfl))) de_non (nomark _)) (dw_and1 (dw_or (dt_cmp L2.op_isN opd_is (de_var (pe_var (i := 7) rfl (Or.inl rfl))) de_non (nomark _)) (dw_or1 (dt_eqNil (hu_of hr) (de_var (pe_var (i := 1) rfl (Or.inl rfl)))))).dt)).dt (dss_one (ds_raise2 rfl W.e_BadText hr (takes_of rfl rfl rfl rfl) (de_var (pe_var (i := 2) rfl (Or.inl rfl))) (by exact rfl))) dss_nil)
    (dss_one (ds_if (dt_cmp L2.op_notN opd_isn (de_var (pe_var (i := 6) rfl (Or.inl rfl))) de_non (nomark _)) (dss_one (ds_expr (de_app (pe_var (i := 1) rfl (Or.inl rfl)) (de_tup (da_cons (de_ix (de_var (pe_var (i := 6) rfl (Or.inl rfl))) de_int) (da_cons (de_newC da_nil) (da_cons (de_ix (de_var (pe_var (i := 6) rfl (Or.inl rfl))) de_int) da_nil))))))) (dss_one (ds_expr (de_appC (de_ix (de_ix (de_var (pe_var (i := 1) rfl (Or.inl rfl))) de_neg) de_int) (de_var (pe_var (i := 7) rfl (Or.inl rfl)))))))))))
    (dss_cons (ds_if (dt_not (dt_val (de_var (pe_var (i := 5) rfl (Or.inl rfl))))) (dss_one (ds_raise2 rfl W.e_BadText hr (takes_of rfl rfl rfl rfl) (de_cb call_len cd_len (by exact rfl) W.b_len bt_len (da_cons (de_var (pe_var (i := 4) rfl (Or.inl rfl))) da_nil)) (by exact rfl))) dss_nil)
    (dss_one (ds_ret (de_mk c_Schema___init__ hr passE (da_cons (de_lc (own := [("name", 8), ("slots", 9), ("hash_of", 10)]) rfl sc_read_schema.nd (di_any (de_var (pe_var (i := 1) rfl (Or.inl rfl)))) (blkOk_by (by kernel_rfl)) (fun _ _ _ _ _ => (dg_tup rfl (dgs_cons (dg_name (i := 8) sc_read_schema.nd rfl (Or.inl rfl)) (dgs_cons (dg_name (i := 9) sc_read_schema.nd rfl (Or.inl rfl)) (dgs_cons (dg_name (i := 10) sc_read_schema.nd rfl (Or.inl rfl)) dgs_nil))))) (fun _ _ _ _ _ => dts_nil) (fun _ _ _ _ _ => (de_tup (da_cons (de_var (pe_var (i := 8) rfl (Or.inl rfl))) (da_cons (de_tupC (by exact rfl) W.b_tuple (de_var (pe_var (i := 9) rfl (Or.inl rfl)))) (da_cons (de_var (pe_var (i := 10) rfl (Or.inl rfl))) da_nil)))))) da_nil))))))))
theorem ds__law_is_hole (W : Wr c P w K mg base) (c__law_is_name : CalD P w K mg base 2 "_law_is_name" T__law_is_name) {f : Addr} {cdv : Value} {A : Around} {outer : List Env} {s : Shared} {H : Hp} {E : XK} (hr : Room 2 (A.deeper (envOfC "_law_is_hole" (defScope s__law_is_hole) s.heap.objs.size f cdv))) :
    DSs (cxOf (L2.CX P w) P w K mg base n__law_is_hole "_law_is_hole" (defScope s__law_is_hole) f cdv A outer s H E) E (defBody s__law_is_hole) t__law_is_hole :=
  (dss_cons (ds_if (dw_or (dt_not (dt_val (de_isi (T := "tuple") (by exact rfl) W.b_isinstance (de_var (pe_var (i := 1) rfl (Or.inl rfl))) (by exact rfl) W.b_tuple bt_tuple))) (dw_or (dt_cmp (op_neM (hu_of hr)) opd_ne (de_cb call_len cd_len (by exact rfl) W.b_len bt_len (da_cons (de_var (pe_var (i := 1) rfl (Or.inl rfl))) da_nil)) de_int (nomark _)) (dw_or1 (dt_not (dt_val (de_call c__law_is_name hr passE (da_cons (de_ix (de_var (pe_var (i := 1) rfl (Or.inl rfl))) de_int) da_nil))))))).dt (dss_one (ds_ret de_bl)) dss_nil)
    (dss_cons (ds_if (dw_or (dt_cmp op_notInA opd_notIn (de_cb cr_reprS cd_repr (by exact rfl) W.b_repr bt_repr (da_cons (de_ix (de_var (pe_var (i := 1) rfl (Or.inl rfl))) de_int) da_nil)) (de_lst (da_cons de_str (da_cons de_str da_nil))) (by exact rfl)) (dw_or1 (dt_cmp op_notInA opd_notIn (de_cb cr_reprS cd_repr (by exact rfl) W.b_repr bt_repr (da_cons (de_ix (de_var (pe_var (i := 1) rfl (Or.inl rfl))) de_int) da_nil)) (de_lst (da_cons de_str (da_cons de_str (da_cons de_str da_nil)))) (by exact rfl)))).dt (dss_one (ds_ret de_bl)) dss_nil)
    (dss_cons (ds_set (i := 2) sc__law_is_hole.nd rfl (Or.inl rfl) (de_ix (de_var (pe_var (i := 1) rfl (Or.inl rfl))) de_int))
    (dss_cons (ds_if (dw_or (dt_not (dt_val (de_isi (T := "tuple") (by exact rfl) W.b_isinstance (de_var (pe_var (i := 2) rfl (Or.inl rfl))) (by exact rfl) W.b_tuple bt_tuple))) (dw_or1 (dt_cmp (op_eqM (hu_of hr)) opd_eq (de_var (pe_var (i := 2) rfl (Or.inl rfl))) (de_tup da_nil) (nomark _)))).dt (dss_one (ds_ret de_bl)) dss_nil)
    (dss_cons (ds_if (dt_cmp (op_neM (hu_of hr)) opd_ne (de_lc (own := [("one", 3)]) rfl sc__law_is_hole.nd (di_any (de_var (pe_var (i := 2) rfl (Or.inl rfl)))) (blkOk_by (by kernel_rfl)) (fun _ _ _ _ _ => (dg_name (i := 3) sc__law_is_hole.nd rfl (Or.inl rfl))) (fun _ _ _ _ _ => (dts_one (dt_not (dt_val (de_isi (T := "str") (by exact rfl) W.b_isinstance (de_var (pe_var (i := 3) rfl (Or.inl rfl))) (by exact rfl) W.b_str bt_str))))) (fun _ _ _ _ _ => (de_var (pe_var (i := 3) rfl (Or.inl rfl))))) (de_lst da_nil) (nomark _)) (dss_one (ds_ret de_bl)) dss_nil)
    (dss_cons (ds_if (dt_cmp (op_neM (hu_of hr)) opd_ne (de_lc (own := [("one", 3), ("other", 4)]) rfl sc__law_is_hole.nd (di_zip (by exact rfl) W.b_zip (da_cons (de_var (pe_var (i := 2) rfl (Or.inl rfl))) (da_cons (de_slice (de_var (pe_var (i := 2) rfl (Or.inl rfl))) (do_some de_int) do_none) da_nil))) (blkOk_by (by kernel_rfl)) (fun _ _ _ _ _ => (dg_tup rfl (dgs_cons (dg_name (i := 3) sc__law_is_hole.nd rfl (Or.inl rfl)) (dgs_cons (dg_name (i := 4) sc__law_is_hole.nd rfl (Or.inl rfl)) dgs_nil)))) (fun _ _ _ _ _ => (dts_one (dt_not (dt_cmp op_ltA opd_lt (de_var (pe_var (i := 3) rfl (Or.inl rfl))) (de_var (pe_var (i := 4) rfl (Or.inl rfl))) (nomark _))))) (fun _ _ _ _ _ => de_int)) (de_lst da_nil) (nomark _)) (dss_one (ds_ret de_bl)) dss_nil)
    (dss_one (ds_ret (de_cmp (op_eqM (hu_of hr)) opd_eq (de_lc (own := [("one", 3)]) rfl sc__law_is_hole.nd (di_any (de_var (pe_var (i := 2) rfl (Or.inl rfl)))) (blkOk_by (by kernel_rfl)) (fun _ _ _ _ _ => (dg_name (i := 3) sc__law_is_hole.nd rfl (Or.inl rfl))) (fun _ _ _ _ _ => (dts_one (dw_and (dt_cmp (op_neM (hu_of hr)) opd_ne (de_var (pe_var (i := 3) rfl (Or.inl rfl))) de_str (nomark _)) (dw_and1 (dt_cmp op_notInA opd_notIn (de_var (pe_var (i := 3) rfl (Or.inl rfl))) (de_var (pe_var (i := 0) rfl (Or.inr (Or.inl rfl)))) (by exact rfl)))).dt)) (fun _ _ _ _ _ => (de_var (pe_var (i := 3) rfl (Or.inl rfl))))) (de_lst da_nil) (nomark _))))))))))
theorem ds__law_is_sheet (W : Wr c P w K mg base) (c__law_is_hole : CalD P w K mg base 3 "_law_is_hole" T__law_is_hole) {f : Addr} {cdv : Value} {A : Around} {outer : List Env} {s : Shared} {H : Hp} {E : XK} (hr : Room 3 (A.deeper (envOfC "_law_is_sheet" (defScope s__law_is_sheet) s.heap.objs.size f cdv))) :
    DSs (cxOf (L2.CX P w) P w K mg base n__law_is_sheet "_law_is_sheet" (defScope s__law_is_sheet) f cdv A outer s H E) E (defBody s__law_is_sheet) t__law_is_sheet :=
  (dss_cons (ds_par (i := 3) (j := 4) rfl sc__law_is_sheet.nd rfl rfl (by decide) rfl rfl (dp_d (de_ix (de_var (pe_var (i := 1) rfl (Or.inl rfl))) de_int) (dp_d (de_ix (de_var (pe_var (i := 1) rfl (Or.inl rfl))) de_int) dp_nil)) rfl)
    (dss_cons (ds_if (dw_or (dt_not (dt_val (de_isi (T := "tuple") (by exact rfl) W.b_isinstance (de_var (pe_var (i := 3) rfl (Or.inl rfl))) (by exact rfl) W.b_tuple bt_tuple))) (dw_or1 (dt_cmp op_gtA opd_gt (de_cb call_len cd_len (by exact rfl) W.b_len bt_len (da_cons (de_var (pe_var (i := 3) rfl (Or.inl rfl))) da_nil)) de_int (nomark _)))).dt (dss_one (ds_ret de_bl)) dss_nil)
    (dss_cons (ds_if (dt_cmp (op_neM (hu_of hr)) opd_ne (de_lc (own := [("hole", 5)]) rfl sc__law_is_sheet.nd (di_any (de_var (pe_var (i := 3) rfl (Or.inl rfl)))) (blkOk_by (by kernel_rfl)) (fun _ _ _ _ _ => (dg_name (i := 5) sc__law_is_sheet.nd rfl (Or.inl rfl))) (fun _ _ _ _ _ => (dts_one (dt_not (dt_val (de_call c__law_is_hole hr passL (da_cons (de_var (pe_var (i := 0) rfl (Or.inr (Or.inl rfl)))) (da_cons (de_var (pe_var (i := 5) rfl (Or.inl rfl))) da_nil))))))) (fun _ _ _ _ _ => de_int)) (de_lst da_nil) (nomark _)) (dss_one (ds_ret de_bl)) dss_nil)
    (dss_cons (ds_set (i := 2) sc__law_is_sheet.nd rfl (Or.inr rfl) (de_lc (own := [("hole", 5)]) rfl sc__law_is_sheet.nd (di_any (de_var (pe_var (i := 3) rfl (Or.inl rfl)))) (blkOk_by (by kernel_rfl)) (fun _ _ _ _ _ => (dg_name (i := 5) sc__law_is_sheet.nd rfl (Or.inl rfl))) (fun _ _ _ _ _ => dts_nil) (fun _ _ _ _ _ => (de_ix (de_var (pe_var (i := 5) rfl (Or.inl rfl))) de_int))))
    (dss_cons (ds_if (dt_cmp (op_neM (hu_of hr)) opd_ne (de_lenset W.b_len W.b_set (de_var (pe_var (i := 2) rfl (Or.inr (Or.inl rfl))))) (de_cb call_len cd_len (by exact rfl) W.b_len bt_len (da_cons (de_var (pe_var (i := 2) rfl (Or.inr (Or.inl rfl)))) da_nil)) (nomark _)) (dss_one (ds_ret de_bl)) dss_nil)
    (dss_cons (ds_if (dt_val (de_isi (T := "str") (by exact rfl) W.b_isinstance (de_var (pe_var (i := 4) rfl (Or.inl rfl))) (by exact rfl) W.b_str bt_str)) (dss_one (ds_ret (de_cmp (op_eqM (hu_of hr)) opd_eq (de_var (pe_var (i := 4) rfl (Or.inl rfl))) de_str (nomark _)))) dss_nil)
    (dss_cons (ds_if (dt_not (dt_val (de_isi (T := "tuple") (by exact rfl) W.b_isinstance (de_var (pe_var (i := 4) rfl (Or.inl rfl))) (by exact rfl) W.b_tuple bt_tuple))) (dss_one (ds_ret de_bl)) dss_nil)
    (dss_cons (ds_if (dt_cmp (op_neM (hu_of hr)) opd_ne (de_lc (own := [("one", 6)]) rfl sc__law_is_sheet.nd (di_any (de_var (pe_var (i := 4) rfl (Or.inl rfl)))) (blkOk_by (by kernel_rfl)) (fun _ _ _ _ _ => (dg_name (i := 6) sc__law_is_sheet.nd rfl (Or.inl rfl))) (fun _ _ _ _ _ => (dts_one (dw_or (dt_not (dt_val (de_isi (T := "str") (by exact rfl) W.b_isinstance (de_var (pe_var (i := 6) rfl (Or.inl rfl))) (by exact rfl) W.b_str bt_str))) (dw_or1 (dt_cmp op_notInA opd_notIn (de_var (pe_var (i := 6) rfl (Or.inl rfl))) (de_var (pe_var (i := 2) rfl (Or.inr (Or.inl rfl)))) (by exact rfl)))).dt)) (fun _ _ _ _ _ => de_int)) (de_lst da_nil) (nomark _)) (dss_one (ds_ret de_bl)) dss_nil)
    (dss_one (ds_ret (de_cmp (op_eqM (hu_of hr)) opd_eq (de_lc (own := [("one", 6), ("other", 7)]) rfl sc__law_is_sheet.nd (di_zip (by exact rfl) W.b_zip (da_cons (de_var (pe_var (i := 4) rfl (Or.inl rfl))) (da_cons (de_slice (de_var (pe_var (i := 4) rfl (Or.inl rfl))) (do_some de_int) do_none) da_nil))) (blkOk_by (by kernel_rfl)) (fun _ _ _ _ _ => (dg_tup rfl (dgs_cons (dg_name (i := 6) sc__law_is_sheet.nd rfl (Or.inl rfl)) (dgs_cons (dg_name (i := 7) sc__law_is_sheet.nd rfl (Or.inl rfl)) dgs_nil)))) (fun _ _ _ _ _ => (dts_one (dt_not (dt_cmp op_ltA opd_lt (de_var (pe_var (i := 6) rfl (Or.inl rfl))) (de_var (pe_var (i := 7) rfl (Or.inl rfl))) (nomark _))))) (fun _ _ _ _ _ => de_int)) (de_lst da_nil) (nomark _))))))))))))
theorem ds__law_sheets_due (W : Wr c P w K mg base) (c__law_is_name : CalD P w K mg base 2 "_law_is_name" T__law_is_name) (c__law_is_sheet : CalD P w K mg base 4 "_law_is_sheet" T__law_is_sheet) {f : Addr} {cdv : Value} {A : Around} {outer : List Env} {s : Shared} {H : Hp} {E : XK} (hr : Room 4 (A.deeper (envOfC "_law_sheets_due" (defScope s__law_sheets_due) s.heap.objs.size f cdv))) :
    DSs (cxOf (L2.CX P w) P w K mg base n__law_sheets_due "_law_sheets_due" (defScope s__law_sheets_due) f cdv A outer s H E) E (defBody s__law_sheets_due) t__law_sheets_due :=
  (dss_cons (ds_if (dw_or (dt_not (dt_val (de_isi2 (T := "list") (U := "tuple") (by exact rfl) W.b_isinstance (de_var (pe_var (i := 0) rfl (Or.inl rfl))) (by exact rfl) W.b_list bt_list (by exact rfl) W.b_tuple bt_tuple))) (dw_or1 (dt_not (dt_chain op_leA op_leA opd_le opd_le de_int (de_cb call_len cd_len (by exact rfl) W.b_len bt_len (da_cons (de_var (pe_var (i := 0) rfl (Or.inl rfl))) da_nil)) de_int)))).dt (dss_one (ds_ret (de_tup (da_cons de_str (da_cons de_non da_nil))))) dss_nil)
    (dss_cons (ds_for owE rfl (di_any (de_var (pe_var (i := 0) rfl (Or.inl rfl)))) (dg_name (i := 1) sc__law_sheets_due.nd rfl (Or.inl rfl)) (dss_one (ds_if (dw_or (dt_not (dt_val (de_isi (T := "tuple") (by exact rfl) W.b_isinstance (de_var (pe_var (i := 1) rfl (Or.inl rfl))) (by exact rfl) W.b_tuple bt_tuple))) (dw_or (dt_cmp (op_neM (hu_of hr)) opd_ne (de_cb call_len cd_len (by exact rfl) W.b_len bt_len (da_cons (de_var (pe_var (i := 1) rfl (Or.inl rfl))) da_nil)) de_int (nomark _)) (dw_or1 (dt_not (dt_val (de_call c__law_is_name hr passE (da_cons (de_ix (de_var (pe_var (i := 1) rfl (Or.inl rfl))) de_int) da_nil))))))).dt (dss_one (ds_ret (de_tup (da_cons de_str (da_cons de_non da_nil))))) dss_nil)))
    (dss_cons (ds_set (i := 2) sc__law_sheets_due.nd rfl (Or.inr rfl) (de_lc (own := [("one", 1)]) rfl sc__law_sheets_due.nd (di_any (de_var (pe_var (i := 0) rfl (Or.inl rfl)))) (blkOk_by (by kernel_rfl)) (fun _ _ _ _ _ => (dg_name (i := 1) sc__law_sheets_due.nd rfl (Or.inl rfl))) (fun _ _ _ _ _ => dts_nil) (fun _ _ _ _ _ => (de_ix (de_var (pe_var (i := 1) rfl (Or.inl rfl))) de_int))))
    (dss_cons (ds_if (dt_cmp (op_neM (hu_of hr)) opd_ne (de_lc (own := [("one", 1), ("other", 4)]) rfl sc__law_sheets_due.nd (di_zip (by exact rfl) W.b_zip (da_cons (de_var (pe_var (i := 2) rfl (Or.inr (Or.inl rfl)))) (da_cons (de_slice (de_var (pe_var (i := 2) rfl (Or.inr (Or.inl rfl)))) (do_some de_int) do_none) da_nil))) (blkOk_by (by kernel_rfl)) (fun _ _ _ _ _ => (dg_tup rfl (dgs_cons (dg_name (i := 1) sc__law_sheets_due.nd rfl (Or.inl rfl)) (dgs_cons (dg_name (i := 4) sc__law_sheets_due.nd rfl (Or.inl rfl)) dgs_nil)))) (fun _ _ _ _ _ => (dts_one (dt_not (dt_cmp op_ltA opd_lt (de_var (pe_var (i := 1) rfl (Or.inl rfl))) (de_var (pe_var (i := 4) rfl (Or.inl rfl))) (nomark _))))) (fun _ _ _ _ _ => de_int)) (de_lst da_nil) (nomark _)) (dss_one (ds_ret (de_tup (da_cons de_str (da_cons de_non da_nil))))) dss_nil)
    (dss_cons (ds_setLc (i := 3) (own := [("one", 1)]) rfl sc__law_sheets_due.nd rfl rfl rfl (di_any (de_var (pe_var (i := 0) rfl (Or.inl rfl)))) (blkOk_by (by kernel_rfl)) (fun _ _ _ _ _ => (dg_name (i := 1) sc__law_sheets_due.nd rfl (Or.inl rfl))) (fun _ _ _ _ _ => (dts_one (dt_not (dt_val (de_call c__law_is_sheet hr passL (da_cons (de_var (pe_var (i := 2) rfl (Or.inr (Or.inl rfl)))) (da_cons (de_var (pe_var (i := 1) rfl (Or.inl rfl))) da_nil))))))) (fun _ _ _ _ _ => (de_ix (de_var (pe_var (i := 1) rfl (Or.inl rfl))) de_int)))
    (dss_one (ds_ret (de_if (dt_cmp (op_neM (hu_of hr)) opd_ne (de_var (pe_var (i := 3) rfl (Or.inl rfl))) (de_lst da_nil) (nomark _)) (de_tup (da_cons de_str (da_cons (de_ix (de_var (pe_var (i := 3) rfl (Or.inl rfl))) de_int) da_nil))) de_non))))))))
theorem ds__law_read_sheets (W : Wr c P w K mg base) (c__law_head_of : CalD P w K mg base 3 "_law_head_of" T__law_head_of) (c__law_hole_of : CalD P w K mg base 3 "_law_hole_of" T__law_hole_of) (c__law_sheets_due : CalD P w K mg base 5 "_law_sheets_due" T__law_sheets_due) {f : Addr} {cdv : Value} {A : Around} {outer : List Env} {s : Shared} {H : Hp} {E : XK} (hr : Room 5 (A.deeper (envOfC "_law_read_sheets" (defScope s__law_read_sheets) s.heap.objs.size f cdv))) :
    DSs (cxOf (L2.CX P w) P w K mg base n__law_read_sheets "_law_read_sheets" (defScope s__law_read_sheets) f cdv A outer s H E) E (defBody s__law_read_sheets) t__law_read_sheets :=
  (dss_cons (ds_if (dt_cmp (op_eqM (hu_of hr)) opd_eq (de_var (pe_var (i := 0) rfl (Or.inl rfl))) de_str (nomark _)) (dss_one (ds_ret (de_tup (da_cons de_str (da_cons de_int da_nil))))) dss_nil)
    (dss_cons (ds_set (i := 1) sc__law_read_sheets.nd rfl (Or.inl rfl) (de_split (de_var (pe_var (i := 0) rfl (Or.inl rfl))) de_str))
    (dss_cons (ds_par (i := 3) (j := 4) rfl sc__law_read_sheets.nd rfl rfl (by decide) rfl rfl (dp_d (de_cmp (op_eqM (hu_of hr)) opd_eq (de_ix (de_var (pe_var (i := 1) rfl (Or.inl rfl))) de_neg) de_str (nomark _)) (dp_o (df_lst da_nil) dp_nil)) rfl)
    (dss_cons (ds_for owE rfl (di_enum (by exact rfl) W.b_enumerate (da_cons (de_if (dt_val (de_var (pe_var (i := 3) rfl (Or.inl rfl)))) (de_slice (de_var (pe_var (i := 1) rfl (Or.inl rfl))) do_none (do_some de_neg)) (de_var (pe_var (i := 1) rfl (Or.inl rfl)))) da_nil)) (dg_tup rfl (dgs_cons (dg_name (i := 5) sc__law_read_sheets.nd rfl (Or.inl rfl)) (dgs_cons (dg_name (i := 6) sc__law_read_sheets.nd rfl (Or.inl rfl)) dgs_nil))) (dss_cons (ds_par (i := 7) (j := 8) rfl sc__law_read_sheets.nd rfl rfl (by decide) rfl rfl (dp_d (de_call c__law_head_of hr passE (da_cons (de_var (pe_var (i := 6) rfl (Or.inl rfl))) da_nil)) (dp_d (de_call c__law_hole_of hr passE (da_cons (de_var (pe_var (i := 6) rfl (Or.inl rfl))) da_nil)) dp_nil)) rfl)
    (dss_one (ds_if (dt_cmp L2.op_notN opd_isn (de_var (pe_var (i := 7) rfl (Or.inl rfl))) de_non (nomark _)) (dss_one (ds_expr (de_app (pe_var (i := 4) rfl (Or.inl rfl)) (de_tup (da_cons (de_ix (de_var (pe_var (i := 7) rfl (Or.inl rfl))) de_int) (da_cons (de_tup da_nil) (da_cons (de_ix (de_var (pe_var (i := 7) rfl (Or.inl rfl))) de_int) da_nil))))))) (dss_one (ds_if (dw_and (dt_cmp L2.op_notN opd_isn (de_var (pe_var (i := 8) rfl (Or.inl rfl))) de_non (nomark _)) (dw_and1 (dt_cmp (op_neM (hu_of hr)) opd_ne (de_var (pe_var (i := 4) rfl (Or.inl rfl))) (de_lst da_nil) (nomark _)))).dt (dss_one (ds_setI (s := 4) (pe_var (i := 4) rfl (Or.inl rfl)) (de_tup (da_cons (de_ix (de_ix (de_var (pe_var (i := 4) rfl (Or.inl rfl))) de_neg) de_int) (da_cons (de_op op_addA opd_add (de_ix (de_ix (de_var (pe_var (i := 4) rfl (Or.inl rfl))) de_neg) de_int) (de_tup (da_cons (de_var (pe_var (i := 8) rfl (Or.inl rfl))) da_nil))) (da_cons (de_ix (de_ix (de_var (pe_var (i := 4) rfl (Or.inl rfl))) de_neg) de_int) da_nil)))) de_neg)) (dss_one (ds_ret (de_tup (da_cons de_str (da_cons (de_var (pe_var (i := 5) rfl (Or.inl rfl))) da_nil)))))))))))
    (dss_cons (ds_if (dt_not (dt_val (de_var (pe_var (i := 3) rfl (Or.inl rfl))))) (dss_one (ds_ret (de_tup (da_cons de_str (da_cons (de_cb call_len cd_len (by exact rfl) W.b_len bt_len (da_cons (de_var (pe_var (i := 1) rfl (Or.inl rfl))) da_nil)) da_nil))))) dss_nil)
    (dss_cons (ds_set (i := 2) sc__law_read_sheets.nd rfl (Or.inl rfl) (de_call c__law_sheets_due hr passE (da_cons (de_var (pe_var (i := 4) rfl (Or.inl rfl))) da_nil)))
    (dss_one (ds_ret (de_if (dt_cmp L2.op_notN opd_isn (de_var (pe_var (i := 2) rfl (Or.inl rfl))) de_non (nomark _)) (de_var (pe_var (i := 2) rfl (Or.inl rfl))) (de_tup (da_cons de_str (da_cons (de_var (pe_var (i := 4) rfl (Or.inl rfl))) da_nil))))))))))))
theorem ds__law_pick (W : Wr c P w K mg base) (c__law_draw : CalD P w K mg base 2 "_law_draw" T__law_draw) {f : Addr} {cdv : Value} {A : Around} {outer : List Env} {s : Shared} {H : Hp} {E : XK} (hr : Room 2 (A.deeper (envOfC "_law_pick" (defScope s__law_pick) s.heap.objs.size f cdv))) :
    DSs (cxOf (L2.CX P w) P w K mg base n__law_pick "_law_pick" (defScope s__law_pick) f cdv A outer s H E) E (defBody s__law_pick) t__law_pick :=
  (dss_one (ds_ret (de_ix (de_var (pe_var (i := 1) rfl (Or.inl rfl))) (de_call c__law_draw hr passE (da_cons (de_var (pe_var (i := 0) rfl (Or.inl rfl))) (da_cons (de_cb call_len cd_len (by exact rfl) W.b_len bt_len (da_cons (de_var (pe_var (i := 1) rfl (Or.inl rfl))) da_nil)) da_nil))))))
theorem ds__law_labels (W : Wr c P w K mg base) (c__law_draw : CalD P w K mg base 2 "_law_draw" T__law_draw) (c__law_pick : CalD P w K mg base 3 "_law_pick" T__law_pick) {f : Addr} {cdv : Value} {A : Around} {outer : List Env} {s : Shared} {H : Hp} {E : XK} (hr : Room 3 (A.deeper (envOfC "_law_labels" (defScope s__law_labels) s.heap.objs.size f cdv))) :
    DSs (cxOf (L2.CX P w) P w K mg base n__law_labels "_law_labels" (defScope s__law_labels) f cdv A outer s H E) E (defBody s__law_labels) t__law_labels :=
  (dss_cons (ds_parC (i := 4) (j := 5) rfl sc__law_labels.nd rfl rfl (Or.inr rfl) (Or.inr rfl) (dp_d de_str (dp_o (df_lst da_nil) dp_nil)))
    (dss_cons (ds_set (i := 2) sc__law_labels.nd rfl (Or.inl rfl) (de_lst (da_cons de_str (da_cons de_str (da_cons de_str (da_cons de_str (da_cons de_str (da_cons de_str (da_cons de_str (da_cons de_str (da_cons de_str (da_cons de_str (da_cons de_str (da_cons de_str da_nil))))))))))))))
    (dss_cons (ds_for owE rfl (di_rng (by exact rfl) W.b_range (da_cons (de_var (pe_var (i := 1) rfl (Or.inl rfl))) da_nil)) (dg_name (i := 3) sc__law_labels.nd rfl (Or.inl rfl)) (dss_cons (ds_set (i := 6) sc__law_labels.nd rfl (Or.inr rfl) (de_call c__law_pick hr passE (da_cons (de_var (pe_var (i := 0) rfl (Or.inr (Or.inl rfl)))) (da_cons (de_var (pe_var (i := 2) rfl (Or.inl rfl))) da_nil))))
    (dss_cons (ds_if (dt_cmp op_gtA opd_gt (de_call c__law_draw hr passE (da_cons (de_var (pe_var (i := 0) rfl (Or.inr (Or.inl rfl)))) (da_cons de_int da_nil))) de_int (nomark _)) (dss_one (ds_set (i := 6) sc__law_labels.nd rfl (Or.inr rfl) (de_join de_str (de_lc (own := [("j", 9)]) rfl sc__law_labels.nd (di_rng (by exact rfl) W.b_range (da_cons (de_call c__law_pick hr passE (da_cons (de_var (pe_var (i := 0) rfl (Or.inr (Or.inl rfl)))) (da_cons (de_lst (da_cons de_int (da_cons de_int (da_cons de_int (da_cons de_int da_nil))))) da_nil))) da_nil)) (blkOk_by (by kernel_rfl)) (fun _ _ _ _ _ => (dg_name (i := 9) sc__law_labels.nd rfl (Or.inl rfl))) (fun _ _ _ _ _ => dts_nil) (fun _ _ _ _ _ => (de_call c__law_pick hr passL (da_cons (de_var (pe_var (i := 0) rfl (Or.inr (Or.inl rfl)))) (da_cons (de_var (pe_var (i := 4) rfl (Or.inr (Or.inl rfl)))) da_nil)))))))) dss_nil)
    (dss_cons (ds_setLc (i := 7) (own := [("sign", 8)]) rfl sc__law_labels.nd rfl rfl rfl (di_any (de_var (pe_var (i := 4) rfl (Or.inr (Or.inl rfl))))) (blkOk_by (by kernel_rfl)) (fun _ _ _ _ _ => (dg_name (i := 8) sc__law_labels.nd rfl (Or.inl rfl))) (fun _ _ _ _ _ => dts_nil) (fun _ _ _ _ _ => (de_op op_addA opd_add (de_slice (de_var (pe_var (i := 6) rfl (Or.inr (Or.inl rfl)))) do_none (do_some de_int)) (de_var (pe_var (i := 8) rfl (Or.inl rfl))))))
    (dss_one (ds_expr (de_app (pe_var (i := 5) rfl (Or.inr (Or.inl rfl))) (de_ix (de_lc (own := [("one", 10)]) rfl sc__law_labels.nd (di_any (de_op op_addA opd_add (de_lst (da_cons (de_var (pe_var (i := 6) rfl (Or.inr (Or.inl rfl)))) da_nil)) (de_var (pe_var (i := 7) rfl (Or.inl rfl))))) (blkOk_by (by kernel_rfl)) (fun _ _ _ _ _ => (dg_name (i := 10) sc__law_labels.nd rfl (Or.inl rfl))) (fun _ _ _ _ _ => (dts_one (dt_cmp op_notInA opd_notIn (de_var (pe_var (i := 10) rfl (Or.inl rfl))) (de_var (pe_var (i := 5) rfl (Or.inr (Or.inl rfl)))) (by exact rfl)))) (fun _ _ _ _ _ => (de_var (pe_var (i := 10) rfl (Or.inl rfl))))) de_int))))))))
    (dss_one (ds_ret (de_var (pe_var (i := 5) rfl (Or.inr (Or.inl rfl)))))))))
theorem ds__law_hole (W : Wr c P w K mg base) (c__law_draw : CalD P w K mg base 2 "_law_draw" T__law_draw) (c__law_pick : CalD P w K mg base 3 "_law_pick" T__law_pick) {f : Addr} {cdv : Value} {A : Around} {outer : List Env} {s : Shared} {H : Hp} {E : XK} (hr : Room 3 (A.deeper (envOfC "_law_hole" (defScope s__law_hole) s.heap.objs.size f cdv))) :
    DSs (cxOf (L2.CX P w) P w K mg base n__law_hole "_law_hole" (defScope s__law_hole) f cdv A outer s H E) E (defBody s__law_hole) t__law_hole :=
  (dss_cons (ds_setLc (i := 3) (own := [("goal", 5)]) rfl sc__law_hole.nd rfl rfl rfl (di_any (de_op op_addA opd_add (de_lst (da_cons de_str da_nil)) (de_cb cr_sortedS cd_sorted (by exact rfl) W.b_sorted bt_sorted (da_cons (de_var (pe_var (i := 1) rfl (Or.inl rfl))) da_nil)))) (blkOk_by (by kernel_rfl)) (fun _ _ _ _ _ => (dg_name (i := 5) sc__law_hole.nd rfl (Or.inl rfl))) (fun _ _ _ _ _ => (dts_one (dt_cmp (op_eqM (hu_of hr)) opd_eq (de_call c__law_draw hr passL (da_cons (de_var (pe_var (i := 0) rfl (Or.inr (Or.inl rfl)))) (da_cons de_int da_nil))) de_int (nomark _)))) (fun _ _ _ _ _ => (de_var (pe_var (i := 5) rfl (Or.inl rfl)))))
    (dss_cons (ds_set (i := 3) sc__law_hole.nd rfl (Or.inl rfl) (de_if (dt_cmp (op_neM (hu_of hr)) opd_ne (de_var (pe_var (i := 3) rfl (Or.inl rfl))) (de_lst da_nil) (nomark _)) (de_var (pe_var (i := 3) rfl (Or.inl rfl))) (de_lst (da_cons (de_call c__law_pick hr passE (da_cons (de_var (pe_var (i := 0) rfl (Or.inr (Or.inl rfl)))) (da_cons (de_op op_addA opd_add (de_lst (da_cons de_str da_nil)) (de_cb cr_sortedS cd_sorted (by exact rfl) W.b_sorted bt_sorted (da_cons (de_var (pe_var (i := 1) rfl (Or.inl rfl))) da_nil))) da_nil))) da_nil))))
    (dss_cons (ds_set (i := 4) sc__law_hole.nd rfl (Or.inl rfl) (de_call c__law_pick hr passE (da_cons (de_var (pe_var (i := 0) rfl (Or.inr (Or.inl rfl)))) (da_cons (de_lst (da_cons de_str (da_cons de_str da_nil))) da_nil))))
    (dss_one (ds_ret (de_tup (da_cons (de_var (pe_var (i := 2) rfl (Or.inl rfl))) (da_cons (de_var (pe_var (i := 4) rfl (Or.inl rfl))) (da_cons (de_call c__law_pick hr passE (da_cons (de_var (pe_var (i := 0) rfl (Or.inr (Or.inl rfl)))) (da_cons (de_lst (da_cons de_str (da_cons de_str (da_cons de_str da_nil)))) da_nil))) (da_cons (de_ct call_tuple_of cd_tuple (by exact rfl) W.b_tuple bt_tuple (da_cons (de_var (pe_var (i := 3) rfl (Or.inl rfl))) da_nil)) da_nil))))))))))
theorem ds__law_sheet (W : Wr c P w K mg base) (c__law_draw : CalD P w K mg base 2 "_law_draw" T__law_draw) (c__law_hole : CalD P w K mg base 4 "_law_hole" T__law_hole) (c__law_labels : CalD P w K mg base 4 "_law_labels" T__law_labels) {f : Addr} {cdv : Value} {A : Around} {outer : List Env} {s : Shared} {H : Hp} {E : XK} (hr : Room 4 (A.deeper (envOfC "_law_sheet" (defScope s__law_sheet) s.heap.objs.size f cdv))) :
    DSs (cxOf (L2.CX P w) P w K mg base n__law_sheet "_law_sheet" (defScope s__law_sheet) f cdv A outer s H E) E (defBody s__law_sheet) t__law_sheet :=
  (dss_cons (ds_set (i := 4) sc__law_sheet.nd rfl (Or.inl rfl) (de_call c__law_labels hr passE (da_cons (de_var (pe_var (i := 0) rfl (Or.inr (Or.inl rfl)))) (da_cons (de_call c__law_draw hr passE (da_cons (de_var (pe_var (i := 0) rfl (Or.inr (Or.inl rfl)))) (da_cons (de_op op_addA opd_add (de_var (pe_var (i := 3) rfl (Or.inl rfl))) de_int) da_nil))) da_nil))))
    (dss_cons (ds_setLc (i := 5) (own := [("one", 7)]) rfl sc__law_sheet.nd rfl rfl rfl (di_any (de_var (pe_var (i := 4) rfl (Or.inl rfl)))) (blkOk_by (by kernel_rfl)) (fun _ _ _ _ _ => (dg_name (i := 7) sc__law_sheet.nd rfl (Or.inl rfl))) (fun _ _ _ _ _ => dts_nil) (fun _ _ _ _ _ => (de_call c__law_hole hr passL (da_cons (de_var (pe_var (i := 0) rfl (Or.inr (Or.inl rfl)))) (da_cons (de_var (pe_var (i := 1) rfl (Or.inr (Or.inl rfl)))) (da_cons (de_var (pe_var (i := 7) rfl (Or.inl rfl))) da_nil))))))
    (dss_cons (ds_set (i := 6) sc__law_sheet.nd rfl (Or.inl rfl) (de_ct call_tuple_of cd_tuple (by exact rfl) W.b_tuple bt_tuple (da_cons (de_cb cr_sortedS cd_sorted (by exact rfl) W.b_sorted bt_sorted (da_cons (de_lc (own := [("hole", 8)]) rfl sc__law_sheet.nd (di_any (de_var (pe_var (i := 5) rfl (Or.inl rfl)))) (blkOk_by (by kernel_rfl)) (fun _ _ _ _ _ => (dg_name (i := 8) sc__law_sheet.nd rfl (Or.inl rfl))) (fun _ _ _ _ _ => (dts_one (dt_cmp (op_eqM (hu_of hr)) opd_eq (de_call c__law_draw hr passL (da_cons (de_var (pe_var (i := 0) rfl (Or.inr (Or.inl rfl)))) (da_cons de_int da_nil))) de_int (nomark _)))) (fun _ _ _ _ _ => (de_ix (de_var (pe_var (i := 8) rfl (Or.inl rfl))) de_int))) da_nil)) da_nil)))
    (dss_one (ds_ret (de_tup (da_cons (de_var (pe_var (i := 2) rfl (Or.inl rfl))) (da_cons (de_ct call_tuple_of cd_tuple (by exact rfl) W.b_tuple bt_tuple (da_cons (de_var (pe_var (i := 5) rfl (Or.inl rfl))) da_nil)) (da_cons (de_if (dt_cmp (op_eqM (hu_of hr)) opd_eq (de_call c__law_draw hr passE (da_cons (de_var (pe_var (i := 0) rfl (Or.inr (Or.inl rfl)))) (da_cons de_int da_nil))) de_int (nomark _)) de_str (de_var (pe_var (i := 6) rfl (Or.inl rfl)))) da_nil)))))))))
theorem ds__law_sheets (W : Wr c P w K mg base) (c__law_draw : CalD P w K mg base 2 "_law_draw" T__law_draw) (c__law_labels : CalD P w K mg base 4 "_law_labels" T__law_labels) (c__law_sheet : CalD P w K mg base 5 "_law_sheet" T__law_sheet) {f : Addr} {cdv : Value} {A : Around} {outer : List Env} {s : Shared} {H : Hp} {E : XK} (hr : Room 5 (A.deeper (envOfC "_law_sheets" (defScope s__law_sheets) s.heap.objs.size f cdv))) :
    DSs (cxOf (L2.CX P w) P w K mg base n__law_sheets "_law_sheets" (defScope s__law_sheets) f cdv A outer s H E) E (defBody s__law_sheets) t__law_sheets :=
  (dss_cons (ds_par3 (i := 4) (j := 5) (l := 6) rfl sc__law_sheets.nd rfl rfl rfl (by decide) (by decide) (by decide) rfl rfl rfl (dp_d (de_cb cr_sortedS cd_sorted (by exact rfl) W.b_sorted bt_sorted (da_cons (de_call c__law_labels hr passE (da_cons (de_var (pe_var (i := 0) rfl (Or.inl rfl))) (da_cons (de_op op_addA opd_add de_int (de_call c__law_draw hr passE (da_cons (de_var (pe_var (i := 0) rfl (Or.inl rfl))) (da_cons (de_var (pe_var (i := 1) rfl (Or.inl rfl))) da_nil)))) da_nil))) da_nil)) (dp_o (df_lst da_nil) (dp_d de_int dp_nil))) rfl)
    (dss_cons (ds_for owE rfl (di_any (de_var (pe_var (i := 4) rfl (Or.inl rfl)))) (dg_name (i := 3) sc__law_sheets.nd rfl (Or.inl rfl)) (dss_cons (ds_expr (de_app (pe_var (i := 5) rfl (Or.inl rfl)) (de_call c__law_sheet hr passE (da_cons (de_var (pe_var (i := 0) rfl (Or.inl rfl))) (da_cons (de_var (pe_var (i := 4) rfl (Or.inl rfl))) (da_cons (de_var (pe_var (i := 3) rfl (Or.inl rfl))) (da_cons (de_cb (call_min2 rfl) cd_min2 (by exact rfl) W.b_min bt_min (da_cons (de_var (pe_var (i := 2) rfl (Or.inl rfl))) (da_cons (de_var (pe_var (i := 6) rfl (Or.inl rfl))) da_nil))) da_nil)))))))
    (dss_one (ds_set (i := 6) sc__law_sheets.nd rfl (Or.inl rfl) (de_op L2.op_sub opd_sub (de_var (pe_var (i := 6) rfl (Or.inl rfl))) (de_cb call_len cd_len (by exact rfl) W.b_len bt_len (da_cons (de_ix (de_ix (de_var (pe_var (i := 5) rfl (Or.inl rfl))) de_neg) de_int) da_nil)))))))
    (dss_one (ds_ret (de_var (pe_var (i := 5) rfl (Or.inl rfl)))))))
theorem ds__law_sheet_lines (W : Wr c P w K mg base) {f : Addr} {cdv : Value} {A : Around} {outer : List Env} {s : Shared} {H : Hp} {E : XK} (hr : Room 1 (A.deeper (envOfC "_law_sheet_lines" (defScope s__law_sheet_lines) s.heap.objs.size f cdv))) :
    DSs (cxOf (L2.CX P w) P w K mg base n__law_sheet_lines "_law_sheet_lines" (defScope s__law_sheet_lines) f cdv A outer s H E) E (defBody s__law_sheet_lines) t__law_sheet_lines :=
  (dss_cons (ds_asg (de_var (pe_var (i := 0) rfl (Or.inl rfl))) (dg_tup rfl (dgs_cons (dg_name (i := 2) sc__law_sheet_lines.nd rfl (Or.inl rfl)) (dgs_cons (dg_name (i := 3) sc__law_sheet_lines.nd rfl (Or.inl rfl)) (dgs_cons (dg_name (i := 4) sc__law_sheet_lines.nd rfl (Or.inl rfl)) dgs_nil)))))
    (dss_cons (ds_setO (i := 1) sc__law_sheet_lines.nd rfl (Or.inl rfl) (df_lst (da_cons (de_join de_str (de_op op_addA opd_add (de_lst (da_cons de_str (da_cons (de_var (pe_var (i := 2) rfl (Or.inl rfl))) da_nil))) (de_if (dt_cmp (op_eqM (hu_of hr)) opd_eq (de_var (pe_var (i := 4) rfl (Or.inl rfl))) de_str (nomark _)) (de_lst (da_cons de_str da_nil)) (de_op op_addA opd_add (de_lst (da_cons de_str da_nil)) (de_ct call_list_of cd_list (by exact rfl) W.b_list bt_list (da_cons (de_var (pe_var (i := 4) rfl (Or.inl rfl))) da_nil)))))) da_nil)))
    (dss_cons (ds_for owE rfl (di_any (de_var (pe_var (i := 3) rfl (Or.inl rfl)))) (dg_tup rfl (dgs_cons (dg_name (i := 5) sc__law_sheet_lines.nd rfl (Or.inl rfl)) (dgs_cons (dg_name (i := 6) sc__law_sheet_lines.nd rfl (Or.inl rfl)) (dgs_cons (dg_name (i := 7) sc__law_sheet_lines.nd rfl (Or.inl rfl)) (dgs_cons (dg_name (i := 8) sc__law_sheet_lines.nd rfl (Or.inl rfl)) dgs_nil))))) (dss_cons (ds_setLc (i := 9) (own := [("goal", 10)]) rfl sc__law_sheet_lines.nd rfl rfl rfl (di_any (de_var (pe_var (i := 8) rfl (Or.inl rfl)))) (blkOk_by (by kernel_rfl)) (fun _ _ _ _ _ => (dg_name (i := 10) sc__law_sheet_lines.nd rfl (Or.inl rfl))) (fun _ _ _ _ _ => dts_nil) (fun _ _ _ _ _ => (de_if (dt_cmp (op_neM (hu_of hr)) opd_ne (de_var (pe_var (i := 10) rfl (Or.inl rfl))) de_str (nomark _)) (de_var (pe_var (i := 10) rfl (Or.inl rfl))) de_str)))
    (dss_one (ds_expr (de_app (pe_var (i := 1) rfl (Or.inl rfl)) (de_op op_addA opd_add de_str (de_join de_str (de_op op_addA opd_add (de_lst (da_cons (de_var (pe_var (i := 5) rfl (Or.inl rfl))) (da_cons (de_var (pe_var (i := 6) rfl (Or.inl rfl))) (da_cons (de_var (pe_var (i := 7) rfl (Or.inl rfl))) da_nil)))) (de_var (pe_var (i := 9) rfl (Or.inl rfl)))))))))))
    (dss_one (ds_ret (de_var (pe_var (i := 1) rfl (Or.inl rfl))))))))
theorem ds__law_schema_lines (W : Wr c P w K mg base) (c__law_sheet_lines : CalD P w K mg base 2 "_law_sheet_lines" T__law_sheet_lines) {f : Addr} {cdv : Value} {A : Around} {outer : List Env} {s : Shared} {H : Hp} {E : XK} (hr : Room 2 (A.deeper (envOfC "_law_schema_lines" (defScope s__law_schema_lines) s.heap.objs.size f cdv))) :
    DSs (cxOf (L2.CX P w) P w K mg base n__law_schema_lines "_law_schema_lines" (defScope s__law_schema_lines) f cdv A outer s H E) E (defBody s__law_schema_lines) t__law_schema_lines :=
  (dss_cons (ds_set (i := 1) sc__law_schema_lines.nd rfl (Or.inl rfl) (de_lst da_nil))
    (dss_cons (ds_for owE rfl (di_any (de_var (pe_var (i := 0) rfl (Or.inl rfl)))) (dg_name (i := 2) sc__law_schema_lines.nd rfl (Or.inl rfl)) (dss_one (ds_set (i := 1) sc__law_schema_lines.nd rfl (Or.inl rfl) (de_op op_addA opd_add (de_var (pe_var (i := 1) rfl (Or.inl rfl))) (de_call c__law_sheet_lines hr passE (da_cons (de_var (pe_var (i := 2) rfl (Or.inl rfl))) da_nil))))))
    (dss_one (ds_ret (de_var (pe_var (i := 1) rfl (Or.inl rfl)))))))
theorem ds__law_page (W : Wr c P w K mg base) {f : Addr} {cdv : Value} {A : Around} {outer : List Env} {s : Shared} {H : Hp} {E : XK} (hr : Room 1 (A.deeper (envOfC "_law_page" (defScope s__law_page) s.heap.objs.size f cdv))) :
    DSs (cxOf (L2.CX P w) P w K mg base n__law_page "_law_page" (defScope s__law_page) f cdv A outer s H E) E (defBody s__law_page) t__law_page :=
  (dss_one (ds_ret (de_join de_str (de_lc (own := [("line", 1)]) rfl sc__law_page.nd (di_any (de_var (pe_var (i := 0) rfl (Or.inl rfl)))) (blkOk_by (by kernel_rfl)) (fun _ _ _ _ _ => (dg_name (i := 1) sc__law_page.nd rfl (Or.inl rfl))) (fun _ _ _ _ _ => dts_nil) (fun _ _ _ _ _ => (de_op op_addA opd_add (de_var (pe_var (i := 1) rfl (Or.inl rfl))) de_str))))))
theorem ds__law_smudged (W : Wr c P w K mg base) (c__law_draw : CalD P w K mg base 2 "_law_draw" T__law_draw) (c__law_pick : CalD P w K mg base 3 "_law_pick" T__law_pick) {f : Addr} {cdv : Value} {A : Around} {outer : List Env} {s : Shared} {H : Hp} {E : XK} (hr : Room 3 (A.deeper (envOfC "_law_smudged" (defScope s__law_smudged) s.heap.objs.size f cdv))) :
    DSs (cxOf (L2.CX P w) P w K mg base n__law_smudged "_law_smudged" (defScope s__law_smudged) f cdv A outer s H E) E (defBody s__law_smudged) t__law_smudged :=
  (dss_cons (ds_par (i := 6) (j := 7) rfl sc__law_smudged.nd rfl rfl (by decide) rfl rfl (dp_d (de_call c__law_draw hr passE (da_cons (de_var (pe_var (i := 0) rfl (Or.inl rfl))) (da_cons de_int da_nil))) (dp_d (de_split (de_var (pe_var (i := 1) rfl (Or.inl rfl))) de_str) dp_nil)) rfl)
    (dss_cons (ds_if (dw_and (dt_cmp op_ltA opd_lt (de_var (pe_var (i := 6) rfl (Or.inl rfl))) de_int (nomark _)) (dw_and1 (dt_cmp (op_neM (hu_of hr)) opd_ne (de_var (pe_var (i := 1) rfl (Or.inl rfl))) de_str (nomark _)))).dt (dss_cons (ds_set (i := 5) sc__law_smudged.nd rfl (Or.inl rfl) (de_call c__law_draw hr passE (da_cons (de_var (pe_var (i := 0) rfl (Or.inl rfl))) (da_cons (de_cb call_len cd_len (by exact rfl) W.b_len bt_len (da_cons (de_var (pe_var (i := 1) rfl (Or.inl rfl))) da_nil)) da_nil))))
    (dss_cons (ds_set (i := 8) sc__law_smudged.nd rfl (Or.inl rfl) (de_call c__law_pick hr passE (da_cons (de_var (pe_var (i := 0) rfl (Or.inl rfl))) (da_cons de_str da_nil))))
    (dss_one (ds_ret (de_op op_addA opd_add (de_op op_addA opd_add (de_slice (de_var (pe_var (i := 1) rfl (Or.inl rfl))) do_none (do_some (de_var (pe_var (i := 5) rfl (Or.inl rfl))))) (de_call c__law_pick hr passE (da_cons (de_var (pe_var (i := 0) rfl (Or.inl rfl))) (da_cons (de_lst (da_cons (de_var (pe_var (i := 8) rfl (Or.inl rfl))) (da_cons de_str (da_cons (de_op op_addA opd_add (de_var (pe_var (i := 8) rfl (Or.inl rfl))) (de_ix (de_var (pe_var (i := 1) rfl (Or.inl rfl))) (de_var (pe_var (i := 5) rfl (Or.inl rfl))))) da_nil)))) da_nil)))) (de_slice (de_var (pe_var (i := 1) rfl (Or.inl rfl))) (do_some (de_op op_addA opd_add (de_var (pe_var (i := 5) rfl (Or.inl rfl))) de_int)) do_none)))))) dss_nil)
    (dss_cons (ds_set (i := 2) sc__law_smudged.nd rfl (Or.inl rfl) (de_call c__law_draw hr passE (da_cons (de_var (pe_var (i := 0) rfl (Or.inl rfl))) (da_cons (de_cb call_len cd_len (by exact rfl) W.b_len bt_len (da_cons (de_var (pe_var (i := 7) rfl (Or.inl rfl))) da_nil)) da_nil))))
    (dss_cons (ds_if (dt_cmp (op_eqM (hu_of hr)) opd_eq (de_var (pe_var (i := 6) rfl (Or.inl rfl))) de_int (nomark _)) (dss_one (ds_ret (de_join de_str (de_op op_addA opd_add (de_slice (de_var (pe_var (i := 7) rfl (Or.inl rfl))) do_none (do_some (de_var (pe_var (i := 2) rfl (Or.inl rfl))))) (de_slice (de_var (pe_var (i := 7) rfl (Or.inl rfl))) (do_some (de_op op_addA opd_add (de_var (pe_var (i := 2) rfl (Or.inl rfl))) de_int)) do_none))))) dss_nil)
    (dss_cons (ds_if (dt_cmp (op_eqM (hu_of hr)) opd_eq (de_var (pe_var (i := 6) rfl (Or.inl rfl))) de_int (nomark _)) (dss_one (ds_ret (de_join de_str (de_op op_addA opd_add (de_op op_addA opd_add (de_slice (de_var (pe_var (i := 7) rfl (Or.inl rfl))) do_none (do_some (de_var (pe_var (i := 2) rfl (Or.inl rfl))))) (de_lst (da_cons (de_call c__law_pick hr passE (da_cons (de_var (pe_var (i := 0) rfl (Or.inl rfl))) (da_cons (de_var (pe_var (i := 7) rfl (Or.inl rfl))) da_nil))) da_nil))) (de_slice (de_var (pe_var (i := 7) rfl (Or.inl rfl))) (do_some (de_var (pe_var (i := 2) rfl (Or.inl rfl)))) do_none))))) dss_nil)
    (dss_cons (ds_setO (i := 3) sc__law_smudged.nd rfl (Or.inl rfl) (df_split (de_ix (de_var (pe_var (i := 7) rfl (Or.inl rfl))) (de_var (pe_var (i := 2) rfl (Or.inl rfl)))) de_str))
    (dss_cons (ds_set (i := 4) sc__law_smudged.nd rfl (Or.inl rfl) (de_lst (da_cons de_str (da_cons de_str (da_cons de_str (da_cons de_str (da_cons de_str (da_cons de_str (da_cons de_str (da_cons de_str (da_cons de_str (da_cons de_str (da_cons de_str (da_cons de_str (da_cons de_str da_nil)))))))))))))))
    (dss_cons (ds_set (i := 4) sc__law_smudged.nd rfl (Or.inl rfl) (de_op op_addA opd_add (de_var (pe_var (i := 4) rfl (Or.inl rfl))) (de_lst (da_cons de_str (da_cons de_str (da_cons de_str (da_cons de_str (da_cons de_str (da_cons de_str da_nil)))))))))
    (dss_cons (ds_set (i := 5) sc__law_smudged.nd rfl (Or.inl rfl) (de_call c__law_draw hr passE (da_cons (de_var (pe_var (i := 0) rfl (Or.inl rfl))) (da_cons (de_cb call_len cd_len (by exact rfl) W.b_len bt_len (da_cons (de_var (pe_var (i := 3) rfl (Or.inl rfl))) da_nil)) da_nil))))
    (dss_cons (ds_if (dt_cmp (op_eqM (hu_of hr)) opd_eq (de_var (pe_var (i := 6) rfl (Or.inl rfl))) de_int (nomark _)) (dss_one (ds_expr (de_ins (pe_var (i := 3) rfl (Or.inl rfl)) (de_var (pe_var (i := 5) rfl (Or.inl rfl))) (de_call c__law_pick hr passE (da_cons (de_var (pe_var (i := 0) rfl (Or.inl rfl))) (da_cons (de_var (pe_var (i := 4) rfl (Or.inl rfl))) da_nil)))))) (dss_one (ds_if (dw_and (dt_cmp (op_eqM (hu_of hr)) opd_eq (de_var (pe_var (i := 6) rfl (Or.inl rfl))) de_int (nomark _)) (dw_and1 (dt_cmp op_gtA opd_gt (de_cb call_len cd_len (by exact rfl) W.b_len bt_len (da_cons (de_var (pe_var (i := 3) rfl (Or.inl rfl))) da_nil)) de_int (nomark _)))).dt (dss_one (ds_expr (de_popAt (pe_var (i := 3) rfl (Or.inl rfl)) (de_var (pe_var (i := 5) rfl (Or.inl rfl)))))) (dss_one (ds_setI (s := 3) (pe_var (i := 3) rfl (Or.inl rfl)) (de_call c__law_pick hr passE (da_cons (de_var (pe_var (i := 0) rfl (Or.inl rfl))) (da_cons (de_op op_addA opd_add (de_var (pe_var (i := 4) rfl (Or.inl rfl))) (de_split (de_call c__law_pick hr passE (da_cons (de_var (pe_var (i := 0) rfl (Or.inl rfl))) (da_cons (de_var (pe_var (i := 7) rfl (Or.inl rfl))) da_nil))) de_str)) da_nil))) (de_var (pe_var (i := 5) rfl (Or.inl rfl))))))))
    (dss_one (ds_ret (de_join de_str (de_op op_addA opd_add (de_op op_addA opd_add (de_slice (de_var (pe_var (i := 7) rfl (Or.inl rfl))) do_none (do_some (de_var (pe_var (i := 2) rfl (Or.inl rfl))))) (de_lst (da_cons (de_join de_str (de_var (pe_var (i := 3) rfl (Or.inl rfl)))) da_nil))) (de_slice (de_var (pe_var (i := 7) rfl (Or.inl rfl))) (do_some (de_op op_addA opd_add (de_var (pe_var (i := 2) rfl (Or.inl rfl))) de_int)) do_none)))))))))))))))
theorem ds_law (W : Wr c P w K mg base) (c_Schema___eq__ : EqD P w K mg base 2 c.Schema (T_Schema___eq__ c)) (c_Schema___init__ : MakD P w K mg base 6 "Schema" c.Schema (T_Schema c)) (c__law_draw : CalD P w K mg base 2 "_law_draw" T__law_draw) (c__law_page : CalD P w K mg base 2 "_law_page" T__law_page) (c__law_read_sheets : CalD P w K mg base 6 "_law_read_sheets" T__law_read_sheets) (c__law_schema_lines : CalD P w K mg base 3 "_law_schema_lines" T__law_schema_lines) (c__law_sheets : CalD P w K mg base 6 "_law_sheets" T__law_sheets) (c__law_smudged : CalD P w K mg base 4 "_law_smudged" T__law_smudged) (c_read_schema : CalD P w K mg base 8 "read_schema" (T_read_schema c)) {cc tb : Addr} (TF : TellF K mg c.BuildError c.BadText c.BadSchema c.BadGraph) (TB : LamX.TabB base mg cc tb) {f : Addr} {cdv : Value} {A : Around} {outer : List Env} {s : Shared} {H : Hp} {E : XK} (hcode : cdv = .ref cc) (hgd : A.guards = some []) (hr : Room 12 (A.deeper (envOfC "law" (defScope s_law) s.heap.objs.size f cdv))) :
    DSs (cxOf (L2.CX P w) P w K mg base n_law "law" (defScope s_law) f cdv A outer s H E) E ((defBody s_law).drop 1) (t_law c tb) :=
  (dss_cons (ds_for owE rfl (di_rng (by exact rfl) W.b_range (da_cons (de_op op_addA opd_add de_int (de_cb (call_min2 rfl) cd_min2 (by exact rfl) W.b_min bt_min (da_cons (de_cb call_len cd_len (by exact rfl) W.b_len bt_len (da_cons (de_var (pe_var (i := 0) rfl (Or.inl rfl))) da_nil)) (da_cons de_int da_nil)))) da_nil)) (dg_name (i := 2) sc_law.nd rfl (Or.inl rfl)) (dss_cons (ds_set (i := 3) sc_law.nd rfl (Or.inr rfl) (de_call c__law_page hr passE (da_cons (de_call c__law_schema_lines hr passE (da_cons (de_call c__law_sheets hr passE (da_cons (de_var (pe_var (i := 1) rfl (Or.inl rfl))) (da_cons de_int (da_cons de_int da_nil)))) da_nil)) da_nil)))
    (dss_cons (ds_for owE rfl (di_rng (by exact rfl) W.b_range (da_cons (de_call c__law_draw hr passE (da_cons (de_var (pe_var (i := 1) rfl (Or.inl rfl))) (da_cons de_int da_nil))) da_nil)) (dg_name (i := 4) sc_law.nd rfl (Or.inl rfl)) (dss_one (ds_set (i := 3) sc_law.nd rfl (Or.inr rfl) (de_call c__law_smudged hr passE (da_cons (de_var (pe_var (i := 1) rfl (Or.inl rfl))) (da_cons (de_var (pe_var (i := 3) rfl (Or.inr (Or.inl rfl)))) da_nil))))))
    (dss_cons (ds_par (i := 5) (j := 6) rfl sc_law.nd rfl rfl (by decide) rfl rfl (dp_d (de_call c__law_read_sheets hr passE (da_cons (de_var (pe_var (i := 3) rfl (Or.inr (Or.inl rfl)))) da_nil)) (dp_d (de_told (k := 9) (by exact rfl) W.d__law_text_told sc__law_text_told rfl (.inl rfl) (fun g cdv => told_gives TF tS__law_text_told) TB hcode (by rfl) (hr.mono (by decide)) (LamX.lamS_by (by show LamX.lamSB (defScope s_law) _ = true; decide +kernel)) (by rfl) (fun _ _ _ _ _ => by rfl) (fun A outer s H E f c' hrL => (de_call c_read_schema hrL (passD (takes_of rfl rfl rfl rfl)) (da_cons (de_var (pe_var (i := 3) rfl (Or.inr (Or.inr rfl)))) da_nil)))) dp_nil)) rfl)
    (dss_cons (ds_if (dw_or (dt_cmp (op_neM (hu_of hr)) opd_ne (de_ix (de_var (pe_var (i := 5) rfl (Or.inl rfl))) de_int) (de_ix (de_var (pe_var (i := 6) rfl (Or.inl rfl))) de_int) (nomark _)) (dw_or1 (dw_and (dt_cmp (op_neM (hu_of hr)) opd_ne (de_ix (de_var (pe_var (i := 5) rfl (Or.inl rfl))) de_int) de_str (nomark _)) (dw_and1 (dt_neRepr hgd (hu66 hr) (by exact rfl) W.b_repr (de_var (pe_var (i := 5) rfl (Or.inl rfl))) (de_var (pe_var (i := 6) rfl (Or.inl rfl)))))).dt)).dt (dss_one (ds_ret de_bl)) dss_nil)
    (dss_one (ds_if (dw_and (dt_cmp (op_eqM (hu_of hr)) opd_eq (de_ix (de_var (pe_var (i := 5) rfl (Or.inl rfl))) de_int) de_str (nomark _)) (dw_and1 (dt_neC c_Schema___eq__ hr passE (de_ix (de_var (pe_var (i := 6) rfl (Or.inl rfl))) de_int) (de_mk c_Schema___init__ hr passE (da_cons (de_ix (de_var (pe_var (i := 5) rfl (Or.inl rfl))) de_int) da_nil))))).dt (dss_one (ds_ret de_bl)) dss_nil)))))))
    (dss_one (ds_ret de_bl)))
end
end DL
namespace DL
open PySem PySem.Spec PyProof.Rows L2
abbrev kd0 (k : D → Prop) (x : Kx) : KD := { nx := fun _ => k .non, rt := fun _ => k, bk := fun _ => False, ct := fun _ => False, x := x }
theorem bls_ex {l : List D} {bs : List Bool} {P : List Bool → Prop} (e : l = bs.map D.bl) (h : P bs) : ∃ bs, l = List.map D.bl bs ∧ P bs := ⟨bs, e, h⟩
theorem nameS_in {s : Str} (ha : 1 ≤ s.length) (hb : s.length ≤ 6) : nameS s = s.cps.toList.all fun c => decide (c ∈ lowS.cps.toList) := by
  unfold nameS
  rw [decide_eq_true ha, decide_eq_true hb]
  rfl
theorem vc_is_name : ∀ ds k x, T_is_name ds k x → t_is_name (kd0 k x) (st0 n_is_name.length ds) := by
  intro ds k x h
  unfold T_is_name at h
  split at h
  · rename_i d
    obtain ⟨h1, h2, q⟩ := h
    cases d with
    | str s =>
      simp only [smallD, nameD] at h2 q
      simp [t_is_name, t_is_name_1, st0]
      refine ⟨h2, ?_⟩
      by_cases ha : 1 ≤ s.length
      · by_cases hb : s.length ≤ 6
        · rw [if_pos (by omega), if_neg (by omega)]
          refine lc_mapA (fun c => D.str ⟨#[c]⟩) (fun c => .bl (decide (c ∈ lowS.cps.toList))) (fun c hc K q => by simpa [stepLc, lowS] using q) (by rw [← slen]; exact h2) ?_
          simp
          refine bls_ex (all_map_bl _ _) (kbl q ?_)
          rw [nameS_in ha hb]
          simp
        · rw [if_pos (by omega), if_pos (by omega)]
          exact kbl q (by simp [nameS, hb])
      · rw [if_neg (by omega)]
        exact kbl q (by simp [nameS, ha])
    | _ => first | (simp [kn, D.ty] at h1; done) | simpa [t_is_name, t_is_name_1, st0, nameD] using q
  · exact h.elim
theorem vc__law_is_name : ∀ ds k x, T__law_is_name ds k x → t__law_is_name (kd0 k x) (st0 n__law_is_name.length ds) := by
  intro ds k x h
  unfold T__law_is_name T_is_name at h
  split at h
  · rename_i d
    obtain ⟨h1, h2, q⟩ := h
    cases d with
    | str s =>
      simp only [smallD, nameD] at h2 q
      simp [t__law_is_name, t__law_is_name_1, st0]
      refine ⟨h2, ?_⟩
      by_cases ha : 1 ≤ s.length
      · by_cases hb : s.length ≤ 6
        · rw [if_pos (by omega), if_neg (by omega)]
          refine lc_mapF (fun c => D.str ⟨#[c]⟩) (fun c => !decide (c ∈ lowS.cps.toList)) (fun c => D.str ⟨#[c]⟩) (fun c hc K q => ?_) (by rw [← slen]; exact h2) ?_
          · simp [stepLc, lowS] at q ⊢
            by_cases z : c ∈ (Str.ofString "abcdefghijklmnopqrstuvwxyz").cps
            · simpa [z] using q
            · simpa [z] using q
          · simp
            refine kbl q ?_
            rw [nameS_in ha hb, ie_filter]
            simp
        · rw [if_pos (by omega), if_pos (by omega)]
          exact kbl q (by simp [nameS, hb])
      · rw [if_neg (by omega)]
        exact kbl q (by simp [nameS, ha])
    | _ => first | (simp [kn, D.ty] at h1; done) | simpa [t__law_is_name, t__law_is_name_1, st0, nameD] using q
  · exact h.elim
end DL
namespace DL
open PySem PySem.Spec PyProof.Rows L2
theorem bff {α : Type} [BEq α] [LawfulBEq α] {a b : α} (h : ¬ a = b) : (a == b) = false := by simpa using h
theorem btt {α : Type} [BEq α] [LawfulBEq α] {a b : α} (h : a = b) : (a == b) = true := by simpa using h
theorem zipD_map {α β : Type} (f : α → D) (g : β → D) : ∀ (l : List α) (m : List β), zipD (l.map f) (m.map g) = (l.zip m).map fun p => D.tup [f p.1, g p.2]
  | [], m => by cases m <;> rfl
  | a :: l, [] => rfl
  | a :: l, b :: m => by simp only [List.map_cons, zipD, List.zip_cons_cons, zipD_map f g l m]
theorem ascS_zip : ∀ l : List Str, ascS l = (l.zip (l.drop 1)).all fun p => sLt p.1 p.2
  | [] => rfl
  | [a] => rfl
  | a :: b :: r => by
    have ih := ascS_zip (b :: r)
    simp only [ascS, ih, List.drop_succ_cons, List.drop_zero, List.zip_cons_cons, List.all_cons]
theorem vc_is_ascending : ∀ ds k x, T_is_ascending ds k x → t_is_ascending (kd0 k x) (st0 n_is_ascending.length ds) := by
  rintro ds k x ⟨l, rfl, hl, q⟩
  simp [t_is_ascending, t_is_ascending_1, st0, kn, smallD, nameD, sD]
  refine lc_mapA D.str (fun _ => .bl true) (fun a _ K q => by simpa [stepLc] using q) hl ?_
  simp
  refine bls_ex (bs := l.map fun _ => true) (by simp) ?_
  simp
  refine ⟨_, _, ⟨rfl, rfl⟩, ?_⟩
  rw [← List.map_tail, zipD_map]
  refine lc_mapA (fun p : Str × Str => D.tup [.str p.1, .str p.2]) (fun p => .bl (sLt p.1 p.2)) (fun a _ K q => by simpa [stepLc] using q) (by simp [cap] at hl ⊢; omega) ?_
  simp
  refine bls_ex (all_map_bl _ _) (kbl q ?_)
  rw [ascS_zip]
  simp
theorem vc_is_hash : ∀ ds k x, T_is_hash ds k x → t_is_hash (kd0 k x) (st0 n_is_hash.length ds) := by
  rintro ds k x ⟨sl, h, rfl, hs, hl, q⟩
  cases h with
  | none => simpa [t_is_hash, t_is_hash_1, st0, hD, hashOk] using q
  | some l =>
    have hl := hl l rfl
    simp [t_is_hash, t_is_hash_1, st0, hD, sD]
    refine ⟨l, rfl, hl, ?_⟩
    by_cases ha : ascS l = true
    · rw [if_pos ha]
      refine lc_mapA D.str (fun s => .bl (decide (s ∈ sl.map (·.n)))) (fun a _ K q => ?_) hl ?_
      · simp [stepLc]
        refine lc_mapA Slt.d (fun s => .str s.n) (fun s _ K q => by simpa [stepLc, Slt.d] using q) hs ?_
        have e : sl.map (fun s => D.str s.n) = (sl.map (·.n)).map D.str := by simp
        rw [e]
        simp only [val_d, dIn, flat_str, true_and, inD_strs]
        exact ⟨by simp, q⟩
      · simp
        refine bls_ex (all_map_bl _ _) (kbl q ?_)
        simp [hashOk, ha]
    · rw [if_neg ha]
      exact kbl q (by simp [hashOk, ha])
theorem whenS_iff (w : Str) : (Str.ofString "first" = w ∨ Str.ofString "later" = w) ↔ w ∈ whenS := by
  simp [whenS, eq_comm]
theorem formS_iff (w : Str) : (Str.ofString "one" = w ∨ (Str.ofString "row" = w ∨ Str.ofString "set" = w)) ↔ w ∈ formS := by
  simp [formS, eq_comm]
theorem vc_is_slot : ∀ ds k x, T_is_slot ds k x → t_is_slot (kd0 k x) (st0 n_is_slot.length ds) := by
  rintro ds k x ⟨l, ⟨n, w, f, g⟩, rfl, hl, ⟨h1, h2, h3, h4, h5⟩, q⟩
  simp [t_is_slot, st0, Slt.d, kn, smallD, nameD, sD] at h1 h2 h3 h4 h5 ⊢
  refine ⟨h1, ?_⟩
  by_cases c1 : nameS n = true
  · simp [c1, t_is_slot_1, t_is_slot_2]
    by_cases c2 : w ∈ whenS
    · by_cases c3 : f ∈ formS
      · simp [whenS_iff, formS_iff, c2, c3, t_is_slot_3]
        refine ⟨g, rfl, h4, ?_⟩
        by_cases c4 : ascS g = true
        · by_cases c5 : g = []
          · simp [c4, c5, ascS]
            exact kbl q (by simp [slotOk, c5])
          · simp only [c4, c5, if_true, if_false]
            simp [t_is_slot_4]
            refine lc_mapA D.str (fun t => .bl (t == "" || decide (t ∈ l))) (fun a _ K q => ?_) h4 ?_
            · simp [stepLc] at q ⊢
              by_cases z : a = ⟨#[]⟩
              · simpa [z] using q
              · rw [bff z, Bool.false_or] at q
                simpa [z] using q
            · simp
              refine bls_ex (all_map_bl _ _) (kbl q ?_)
              simp [slotOk, c1, c2, c3, c4, c5]
        · simp [c4]
          exact kbl q (by simp [slotOk, c4])
      · simp [whenS_iff, formS_iff, c2, c3]
        exact kbl q (by simp [slotOk, c3])
    · simp [whenS_iff, c2]
      exact kbl q (by simp [slotOk, c2])
  · rw [if_neg c1]
    exact kbl q (by simp [slotOk, c1])
theorem ro_ne : ¬ (Str.ofString "reads" = Str.ofString "own") := by decide +kernel
theorem nall {α : Type} (l : List α) (p : α → Bool) : (false ∈ l.map p) ↔ ¬ l.all p = true := by simp
theorem splitC_len (c : Nat) : ∀ l : List Nat, (splitC c l).length ≤ l.length + 1
  | [] => by simp [splitC]
  | x :: r => by
    have ih := splitC_len c r
    unfold splitC
    split
    · simp; omega
    · split
      · rename_i h t e
        rw [e] at ih
        simp at ih ⊢
        omega
      · simp
theorem splitC_mem (c : Nat) : ∀ (l p : List Nat), p ∈ splitC c l → p.length ≤ l.length
  | [], p, h => by simp [splitC] at h; simp [h]
  | x :: r, p, h => by
    unfold splitC at h
    split at h
    · rcases List.mem_cons.mp h with e | h
      · rw [e]; simp
      · have := splitC_mem c r p h
        simp; omega
    · split at h
      · rename_i a t e
        rcases List.mem_cons.mp h with e2 | h
        · have := splitC_mem c r a (by rw [e]; exact List.mem_cons_self)
          rw [e2]; simp; omega
        · have := splitC_mem c r p (by rw [e]; exact List.mem_cons_of_mem _ h)
          simp; omega
      · rename_i e
        exact absurd e (splitC_ne c r)
theorem spS_len (c : Nat) (s : Str) : (spS c s).length ≤ s.length + 1 := by
  unfold spS
  rw [List.length_map, slen]
  exact splitC_len c _
theorem spS_mem {c : Nat} {s w : Str} (h : w ∈ spS c s) : w.length ≤ s.length := by
  unfold spS at h
  obtain ⟨p, hp, rfl⟩ := List.mem_map.mp h
  rw [mkS_len, slen]
  exact splitC_mem c _ p hp
theorem lens {c : Nat} {s : Str} (h : s.length + 2 ≤ cap) : (∀ w ∈ spS c s, w.length ≤ 16777216) ∧ (spS c s).length ≤ 16777216 := by
  simp only [cap] at h
  refine ⟨fun w hw => ?_, ?_⟩
  · have := spS_mem hw
    omega
  · have := spS_len c s
    omega
theorem vc_read_head : ∀ ds k x, T_read_head ds k x → t_read_head (kd0 k x) (st0 n_read_head.length ds) := by
  intro ds k x h
  unfold T_read_head at h
  split at h
  · rename_i s
    obtain ⟨h1, q⟩ := h
    obtain ⟨hlen, hln⟩ := lens (c := 32) h1
    simp [t_read_head, st0]
    refine ⟨by simpa [cap] using h1, ?_⟩
    unfold headD at q
    generalize spS 32 s = W at q hlen hln ⊢
    match W, q with
    | [], q => simpa [t_read_head_1, headW] using q
    | [a], q => simpa [t_read_head_1, headW] using q
    | [a, b], q => simpa [t_read_head_1, headW] using q
    | a :: n :: h :: r, q =>
      have e0 : ¬ ((r.length : Int) + 1 + 1 + 1 < 3) := by omega
      simp [t_read_head_1, kn, smallD, nameD, e0]
      by_cases c1 : a = Str.ofString "class"
      · simp only [c1, if_true]
        refine ⟨hlen n (by simp), ?_⟩
        by_cases c2 : nameS n = true
        · simp only [c2, if_true]
          by_cases c3 : h = Str.ofString "own"
          · cases r with
            | nil => simpa [t_read_head_2, t_read_head_b1, headW, c1, c2, c3] using q
            | cons y r =>
              have e1 : ¬ ((r.length : Int) + 1 + 1 + 1 + 1 = 3) := by omega
              simp [t_read_head_2, t_read_head_b1, c3, e1]
              simpa [headW, c1, c2, c3] using q
          · simp [t_read_head_2, c3, t_read_head_3]
            by_cases c4 : h = Str.ofString "reads"
            · simp only [c4, if_true]
              refine lc_mapA D.str (fun t => .bl (nameS t)) (fun w hw K q => ?_) (by simp at hln; omega) ?_
              · simp [stepLc, kn, smallD, nameD]
                exact ⟨hlen w (by simp [hw]), q⟩
              · simp
                refine bls_ex (all_map_bl _ _) ?_
                by_cases c5 : r.all nameS = true
                · rw [if_neg (by simpa using c5)]
                  simpa [t_read_head_4, headW, c1, c2, c4, c5, sD, ro_ne] using q
                · rw [if_pos (by simpa using c5)]
                  simpa [headW, c1, c2, c4, c5, ro_ne] using q
            · simp only [c4, if_false]
              simpa [headW, c1, c2, c3, c4] using q
        · simpa [headW, c1, c2] using q
      · simpa [headW, c1] using q
  · exact h.elim
theorem vc__law_head_of : ∀ ds k x, T__law_head_of ds k x → t__law_head_of (kd0 k x) (st0 n__law_head_of.length ds) := by
  intro ds k x h
  unfold T__law_head_of T_read_head at h
  split at h
  · rename_i s
    obtain ⟨h1, q⟩ := h
    obtain ⟨hlen, hln⟩ := lens (c := 32) h1
    simp [t__law_head_of, st0]
    refine ⟨by simpa [cap] using h1, ?_⟩
    unfold headD at q
    generalize spS 32 s = W at q hlen hln ⊢
    match W, q with
    | [], q => simpa [t__law_head_of_1, headW] using q
    | [a], q => simpa [t__law_head_of_1, headW] using q
    | [a, b], q => simpa [t__law_head_of_1, headW] using q
    | a :: n :: h :: r, q =>
      have e0 : ¬ ((r.length : Int) + 1 + 1 + 1 < 3) := by omega
      simp [t__law_head_of_1, kn, smallD, nameD, e0]
      by_cases c1 : a = Str.ofString "class"
      · simp only [c1, if_true]
        refine ⟨hlen n (by simp), ?_⟩
        by_cases c2 : nameS n = true
        · simp only [c2, if_true]
          by_cases c3 : h = Str.ofString "own"
          · cases r with
            | nil => simpa [t__law_head_of_2, headW, c1, c2, c3] using q
            | cons y r =>
              have e1 : ¬ ((r.length : Int) + 1 + 1 + 1 + 1 = 3) := by omega
              have e2 : ¬ Str.ofString "own" = Str.ofString "reads" := fun z => ro_ne z.symm
              simp [t__law_head_of_2, t__law_head_of_3, c3, e1, e2]
              simpa [headW, c1, c2, c3] using q
          · simp [t__law_head_of_2, c3, t__law_head_of_3]
            by_cases c4 : h = Str.ofString "reads"
            · simp only [c4, if_true]
              refine lc_mapF D.str (fun t => !nameS t) D.str (fun w hw K q => ?_) (by simp at hln; omega) ?_
              · simp [stepLc, kn, smallD, nameD]
                refine ⟨hlen w (by simp [hw]), ?_⟩
                by_cases z : nameS w = true
                · simpa [z] using q
                · simpa [z] using q
              · simp
                by_cases c5 : r.all nameS = true
                · rw [if_pos (by simpa using c5)]
                  simpa [t__law_head_of_4, headW, c1, c2, c4, c5, sD, ro_ne] using q
                · rw [if_neg (by simpa using c5)]
                  simpa [headW, c1, c2, c4, c5, ro_ne] using q
            · simp only [c4, if_false]
              simpa [headW, c1, c2, c3, c4] using q
        · simpa [headW, c1, c2] using q
      · simpa [headW, c1] using q
  · exact h.elim
theorem hole_if (m : Bool) (n w f g : Str) (r : List Str) : holeW m (n :: w :: f :: g :: r) = if m = true ∧ nameS n = true ∧ w ∈ whenS ∧ f ∈ formS ∧ ((g :: r).all fun x => x == "#" || nameS x) = true then Slt.d ⟨n, w, f, (g :: r).map fixG⟩ else .non := rfl
theorem hole_false (W : List Str) : holeW false W = .non := by
  unfold holeW
  split <;> simp
theorem vc_read_slot : ∀ ds k x, T_read_slot ds k x → t_read_slot (kd0 k x) (st0 n_read_slot.length ds) := by
  intro ds k x h
  unfold T_read_slot at h
  split at h
  · rename_i s
    obtain ⟨h1, q⟩ := h
    have h2 : (mkS (s.cps.toList.drop 2)).length + 2 ≤ cap := by
      rw [mkS_len, List.length_drop, ← slen]
      omega
    obtain ⟨hlen, hln⟩ := lens (c := 32) h2
    simp [t_read_slot, st0]
    refine ⟨by simp [cap] at h1; omega, by rw [slen] at h1; simp [cap] at h1; omega, ?_⟩
    unfold holeD at q
    have em : (mkS (List.take 2 s.cps.toList) = ⟨#[32, 32]⟩) = (List.take 2 s.cps.toList = [32, 32]) := propext ⟨fun z => by
      have := congrArg (fun s : Str => s.cps.toList) z
      simpa using this, fun z => str_ext (by simpa using z)⟩
    generalize spS 32 (mkS (s.cps.toList.drop 2)) = W at q hlen hln ⊢
    simp [t_read_slot_1, em]
    refine ⟨by simp [cap] at h1; omega, ?_⟩
    by_cases c0 : List.take 2 s.cps.toList = [32, 32]
    · rw [decide_eq_true c0] at q
      simp only [c0]
      match W, q with
      | [], q => simpa [holeW] using q
      | [a], q => simpa [holeW] using q
      | [a, b], q => simpa [holeW] using q
      | [a, b, c], q => simpa [holeW] using q
      | n :: w :: f :: g :: r, q =>
        have e0 : ¬ ((r.length : Int) + 1 + 1 + 1 + 1 < 4) := by omega
        simp [kn, smallD, nameD, e0]
        refine ⟨hlen n (by simp), ?_⟩
        by_cases c1 : nameS n = true
        · simp only [c1, if_true]
          by_cases c2 : w ∈ whenS
          · by_cases c3 : f ∈ formS
            · simp [t_read_slot_2, whenS_iff, formS_iff, c2, c3, t_read_slot_3]
              refine lc_mapA D.str (fun t => .bl (t == "#" || nameS t)) (l := g :: r) (fun x hx K q => ?_) (by simp at hln ⊢; omega) ?_
              · simp [stepLc, kn, smallD, nameD] at q ⊢
                by_cases z : x = Str.ofString "#"
                · simpa [z] using q
                · rw [bff z, Bool.false_or] at q
                  simp [z]
                  exact ⟨hlen x (by rcases List.mem_cons.mp hx with e | hx; · simp [e]
                                    · simp [hx]), q⟩
              · simp
                refine bls_ex (bs := (g == "#" || nameS g) :: r.map fun t : Str => t == "#" || nameS t) (by simp) ?_
                by_cases c5 : ((g :: r).all fun x => x == "#" || nameS x) = true
                · have hm : ¬ (false ∈ (g == Str.ofString "#" || nameS g) :: List.map (fun t => t == Str.ofString "#" || nameS t) r) := fun z => (nall (g :: r) (fun x : Str => x == "#" || nameS x)).mp z c5
                  rw [if_neg hm]
                  simp [t_read_slot_4]
                  refine lc_mapA D.str (fun t => .str (fixG t)) (l := g :: r) (fun x hx K q => ?_) (by simp at hln ⊢; omega) ?_
                  · simp [stepLc, fixG] at q ⊢
                    by_cases z : x = Str.ofString "#"
                    · simpa [z] using q
                    · simpa [z] using q
                  · have e : holeW true (n :: w :: f :: g :: r) = Slt.d ⟨n, w, f, (g :: r).map fixG⟩ := by
                      rw [hole_if, if_pos ⟨rfl, c1, c2, c3, c5⟩]
                    rw [e] at q
                    simpa [Slt.d, sD, Function.comp_def] using q
                · have hm : false ∈ (g == Str.ofString "#" || nameS g) :: List.map (fun t => t == Str.ofString "#" || nameS t) r := (nall (g :: r) (fun x : Str => x == "#" || nameS x)).mpr c5
                  rw [if_pos hm]
                  have e : holeW true (n :: w :: f :: g :: r) = .non := by
                    rw [hole_if, if_neg fun z => c5 z.2.2.2.2]
                  rw [e] at q
                  exact q
            · simp [t_read_slot_2, whenS_iff, formS_iff, c2, c3]
              simpa [holeW, c3] using q
          · simp [t_read_slot_2, whenS_iff, c2]
            simpa [holeW, c2] using q
        · simpa [c1, holeW] using q
    · rw [decide_eq_false c0, hole_false] at q
      simpa [c0] using q
  · exact h.elim
theorem vc__law_hole_of : ∀ ds k x, T__law_hole_of ds k x → t__law_hole_of (kd0 k x) (st0 n__law_hole_of.length ds) := by
  intro ds k x h
  unfold T__law_hole_of T_read_slot at h
  split at h
  · rename_i s
    obtain ⟨h1, q⟩ := h
    have h2 : (mkS (s.cps.toList.drop 2)).length + 2 ≤ cap := by
      rw [mkS_len, List.length_drop, ← slen]
      omega
    obtain ⟨hlen, hln⟩ := lens (c := 32) h2
    simp [t__law_hole_of, st0]
    refine ⟨by simp [cap] at h1; omega, by rw [slen] at h1; simp [cap] at h1; omega, ?_⟩
    unfold holeD at q
    have em : (mkS (List.take 2 s.cps.toList) = ⟨#[32, 32]⟩) = (List.take 2 s.cps.toList = [32, 32]) := propext ⟨fun z => by
      have := congrArg (fun s : Str => s.cps.toList) z
      simpa using this, fun z => str_ext (by simpa using z)⟩
    generalize spS 32 (mkS (s.cps.toList.drop 2)) = W at q hlen hln ⊢
    simp [t__law_hole_of_1, em]
    refine ⟨by simp [cap] at h1; omega, ?_⟩
    by_cases c0 : List.take 2 s.cps.toList = [32, 32]
    · rw [decide_eq_true c0] at q
      simp only [c0]
      match W, q with
      | [], q => simpa [holeW] using q
      | [a], q => simpa [holeW] using q
      | [a, b], q => simpa [holeW] using q
      | [a, b, c], q => simpa [holeW] using q
      | n :: w :: f :: g :: r, q =>
        have e0 : ¬ ((r.length : Int) + 1 + 1 + 1 + 1 < 4) := by omega
        simp [kn, smallD, nameD, e0]
        refine ⟨hlen n (by simp), ?_⟩
        by_cases c1 : nameS n = true
        · simp only [c1, if_true]
          by_cases c2 : w ∈ whenS
          · by_cases c3 : f ∈ formS
            · simp [t__law_hole_of_2, whenS_iff, formS_iff, c2, c3, t__law_hole_of_3]
              refine lc_mapF D.str (fun t => !(t == "#" || nameS t)) D.str (l := g :: r) (fun x hx K q => ?_) (by simp at hln ⊢; omega) ?_
              · simp [stepLc, kn, smallD, nameD] at q ⊢
                by_cases z : x = Str.ofString "#"
                · simpa [z] using q
                · simp [z] at q ⊢
                  refine ⟨hlen x (by rcases List.mem_cons.mp hx with e | hx; · simp [e]
                                     · simp [hx]), ?_⟩
                  by_cases z2 : nameS x = true
                  · simpa [z2] using q
                  · simpa [z2] using q
              · have c6 : ((g :: r).filter fun t => !(t == Str.ofString "#" || nameS t)).isEmpty = (g :: r).all fun x => x == Str.ofString "#" || nameS x := by
                  rw [ie_filter]
                  simp
                generalize ((g :: r).filter fun t => !(t == Str.ofString "#" || nameS t)) = Z at c6 ⊢
                simp
                by_cases c5 : ((g :: r).all fun x => x == "#" || nameS x) = true
                · rw [c5] at c6
                  have c7 : Z = [] := by simpa using c6
                  simp only [c7, if_true]
                  simp [t__law_hole_of_4]
                  refine lc_mapA D.str (fun t => .str (fixG t)) (l := g :: r) (fun x hx K q => ?_) (by simp at hln ⊢; omega) ?_
                  · simp [stepLc, fixG] at q ⊢
                    by_cases z : x = Str.ofString "#"
                    · simpa [z] using q
                    · simpa [z] using q
                  · have e : holeW true (n :: w :: f :: g :: r) = Slt.d ⟨n, w, f, (g :: r).map fixG⟩ := by
                      rw [hole_if, if_pos ⟨rfl, c1, c2, c3, c5⟩]
                    rw [e] at q
                    simpa [Slt.d, sD, Function.comp_def] using q
                · rw [show ((g :: r).all fun x => x == Str.ofString "#" || nameS x) = false by simpa using c5] at c6
                  have c7 : ¬ Z = [] := by simpa using c6
                  simp only [c7, if_false]
                  have e : holeW true (n :: w :: f :: g :: r) = .non := by
                    rw [hole_if, if_neg fun z => c5 z.2.2.2.2]
                  rw [e] at q
                  exact q
            · simp [t__law_hole_of_2, whenS_iff, formS_iff, c2, c3]
              simpa [holeW, c3] using q
          · simp [t__law_hole_of_2, whenS_iff, c2]
            simpa [holeW, c2] using q
        · simpa [c1, holeW] using q
    · rw [decide_eq_false c0, hole_false] at q
      simpa [c0] using q
  · exact h.elim
theorem vc_split_text : ∀ ds k x, T_split_text ds k x → t_split_text (kd0 k x) (st0 n_split_text.length ds) := by
  intro ds k x h
  unfold T_split_text at h
  split at h
  · rename_i s
    obtain ⟨h1, ini, last, e, q⟩ := h
    simp [t_split_text, st0]
    refine ⟨by simp [cap] at h1; omega, ?_⟩
    rw [e]
    simp [t_split_text_1]
    by_cases c : last = ⟨#[]⟩
    · simpa [c] using q
    · have c2 : ¬ last.cps.toList = [] := fun z => c (str_ext (by simpa using z))
      simpa [c, c2] using q
  · exact h.elim
end DL
namespace DL
open PySem PySem.Spec PyProof.Rows L2
theorem vc_are_slots : ∀ ds k x, T_are_slots ds k x → t_are_slots (kd0 k x) (st0 n_are_slots.length ds) := by
  rintro ds k x ⟨l, sl, rfl, hl, hs, hm, q⟩
  simp [t_are_slots, st0]
  by_cases c0 : sl.length ≤ 4
  · rw [if_neg (by omega)]
    refine lc_mapA Slt.d (fun s => .bl (slotOk l s)) (fun s hs2 K q => ?_) hs ?_
    · simp [stepLc]
      exact ⟨l, s, ⟨rfl, rfl⟩, hl, hm s hs2, q⟩
    · simp
      refine bls_ex (all_map_bl _ _) ?_
      by_cases c1 : sl.all (slotOk l) = true
      · rw [if_neg (by simpa using c1)]
        simp [t_are_slots_1]
        refine dc_len Slt.d (·.n) (fun s _ K q N => by simpa [Slt.d] using q) hs fun kvs e => ?_
        simp
        refine kbl q ?_
        have e2 := ded_full _ (sl.map (·.n)) rfl
        rw [List.length_map] at e2
        rw [e]
        unfold slotsOk
        rw [c1, decide_eq_true c0]
        by_cases c2 : (sl.map (·.n)).Nodup
        · rw [decide_eq_true c2, e2.mpr c2]
          simp
        · rw [decide_eq_false c2]
          have e3 : ¬ (ded (sl.map (·.n))).length = sl.length := fun z => c2 (e2.mp z)
          simp
          omega
      · rw [if_pos (by simpa using c1)]
        refine kbl q ?_
        have e : sl.all (slotOk l) = false := by simpa using c1
        simp only [slotsOk, e, Bool.and_false, Bool.false_and]
  · rw [if_pos (by omega)]
    refine kbl q ?_
    unfold slotsOk
    rw [decide_eq_false c0]
    simp
theorem vc_is_class : ∀ ds k x, T_is_class ds k x → t_is_class (kd0 k x) (st0 n_is_class.length ds) := by
  rintro ds k x ⟨l, c, rfl, hl, ⟨h1, h2, h3, h4⟩, q⟩
  simp [t_is_class, st0, Cls.d]
  refine ⟨l, c.sl, ⟨rfl, rfl⟩, hl, h2, h3, ?_⟩
  by_cases c1 : slotsOk l c.sl = true
  · rw [if_pos c1]
    refine ⟨c.sl, c.h, ⟨rfl, rfl⟩, h2, fun l e => (h4 l e).1, kbl q ?_⟩
    simp [clsOk, c1]
  · rw [if_neg c1]
    exact kbl q (by simp [clsOk, c1])
theorem vc_are_named : ∀ ds k x, T_are_named ds k x → t_are_named (kd0 k x) (st0 n_are_named.length ds) := by
  rintro ds k x ⟨cs, rfl, hl, hm, q⟩
  simp [t_are_named, st0]
  by_cases ca : 1 ≤ cs.length
  · by_cases cb : cs.length ≤ 4
    · rw [if_pos (by omega), if_neg (by omega)]
      simp [t_are_named_1]
      refine lc_mapA Cls.d (fun c => .bl (nameS c.n)) (fun c hc K q => ?_) hl ?_
      · simp [stepLc, Cls.d, kn, smallD, nameD]
        exact ⟨(hm c hc).1, q⟩
      · simp
        refine bls_ex (all_map_bl _ _) ?_
        by_cases c1 : (cs.all fun c => nameS c.n) = true
        · rw [if_neg (by simpa using c1)]
          simp [t_are_named_2]
          refine ⟨_, _, ⟨rfl, rfl⟩, ?_⟩
          rw [← List.map_tail, zipD_map]
          refine lc_mapA (fun p : Cls × Cls => D.tup [p.1.d, p.2.d]) (fun p => .bl (sLt p.1.n p.2.n)) (fun a _ K q => by simpa [stepLc, Cls.d] using q) (by simp [cap] at hl ⊢; omega) ?_
          simp
          refine bls_ex (all_map_bl _ _) (kbl q ?_)
          unfold namedOk
          rw [decide_eq_true ca, decide_eq_true cb, c1, ascS_zip]
          simp [List.zip_map, List.all_map, Function.comp_def]
          rw [← List.map_tail, List.zip_map, List.all_map]
          rfl
        · rw [if_pos (by simpa using c1)]
          refine kbl q ?_
          have e : (cs.all fun c => nameS c.n) = false := by simpa using c1
          simp only [namedOk, e, Bool.and_false, Bool.false_and]
    · rw [if_pos (by omega), if_pos (by omega)]
      exact kbl q (by simp [namedOk, cb])
  · rw [if_neg (by omega)]
    exact kbl q (by simp [namedOk, ca])
end DL
namespace DL
open PySem PySem.Spec PyProof.Rows L2
theorem vc__law_is_hole : ∀ ds k x, T__law_is_hole ds k x → t__law_is_hole (kd0 k x) (st0 n__law_is_hole.length ds) := by
  rintro ds k x ⟨l, ⟨n, w, f, g⟩, rfl, hl, ⟨h1, h2, h3, h4, h5⟩, hw, hf, q⟩
  simp [t__law_is_hole, st0, Slt.d, kn, smallD, nameD, sD] at h1 h2 h3 h4 h5 ⊢
  refine ⟨h1, ?_⟩
  have r1 : (reprText w).length ≤ 16777216 ∧ SOk (reprText w) ∧ (reprText w = Str.ofString "'first'" ∨ reprText w = Str.ofString "'later'") := by
    simp [whenS] at hw
    rcases hw with rfl | rfl
    · exact ⟨by decide +kernel, sok_of (by decide +kernel), .inl (by decide +kernel)⟩
    · exact ⟨by decide +kernel, sok_of (by decide +kernel), .inr (by decide +kernel)⟩
  have r2 : (reprText f).length ≤ 16777216 ∧ SOk (reprText f) ∧ (reprText f = Str.ofString "'one'" ∨ reprText f = Str.ofString "'row'" ∨ reprText f = Str.ofString "'set'") := by
    simp [formS] at hf
    rcases hf with rfl | rfl | rfl
    · exact ⟨by decide +kernel, sok_of (by decide +kernel), .inl (by decide +kernel)⟩
    · exact ⟨by decide +kernel, sok_of (by decide +kernel), .inr (.inl (by decide +kernel))⟩
    · exact ⟨by decide +kernel, sok_of (by decide +kernel), .inr (.inr (by decide +kernel))⟩
  by_cases c1 : nameS n = true
  · rw [if_pos c1]
    simp [t__law_is_hole_1]
    refine ⟨r1.1, r1.2.1, ?_⟩
    rw [if_pos (by rcases r1.2.2 with z | z <;> simp [z])]
    refine ⟨r2.1, r2.2.1, ?_⟩
    rw [if_pos (by rcases r2.2.2 with z | z | z <;> simp [z])]
    simp [t__law_is_hole_2, t__law_is_hole_3]
    by_cases c5 : g = []
    · rw [if_pos c5]
      exact kbl q (by simp [slotOk, c5])
    · rw [if_neg c5]
      simp [t__law_is_hole_4]
      refine lc_mapF D.str (fun _ => false) D.str (fun a _ K q => by simpa [stepLc] using q) h4 ?_
      simp [t__law_is_hole_5]
      refine ⟨_, _, ⟨rfl, rfl⟩, ?_⟩
      rw [← List.map_tail, zipD_map]
      refine lc_mapF (fun p : Str × Str => D.tup [.str p.1, .str p.2]) (fun p => !sLt p.1 p.2) (fun _ => .int 1) (fun a _ K q => ?_) (by simp [cap] at h4 ⊢; omega) ?_
      · simp [stepLc]
        by_cases z : sLt a.1 a.2 = true
        · simpa [z] using q
        · simpa [z] using q
      · simp [ie_filter]
        have e4 : ascS g = (g.zip g.tail).all fun p => sLt p.1 p.2 := by rw [ascS_zip]; simp
        by_cases c4 : ascS g = true
        · rw [if_pos (by rw [e4] at c4; simpa using c4)]
          simp [t__law_is_hole_6]
          refine lc_mapF D.str (fun t => !(t == "" || decide (t ∈ l))) D.str (fun a _ K q => ?_) h4 ?_
          · simp [stepLc]
            by_cases z : a = ⟨#[]⟩
            · simpa [z] using q
            · by_cases z2 : a ∈ l
              · simpa [z, z2] using q
              · simpa [z, z2] using q
          · simp
            refine kbl q ?_
            rw [ie_filter]
            unfold slotOk
            rw [c1, c4, decide_eq_true hw, decide_eq_true hf]
            simp [c5]
        · rw [if_neg (by rw [e4] at c4; simpa using c4)]
          exact kbl q (by simp [slotOk, c4])
  · rw [if_neg c1]
    exact kbl q (by simp [slotOk, c1])
theorem vc__law_is_sheet : ∀ ds k x, T__law_is_sheet ds k x → t__law_is_sheet (kd0 k x) (st0 n__law_is_sheet.length ds) := by
  rintro ds k x ⟨l, c, rfl, hl, ⟨h1, h2, h3, h4⟩, _, h6, q⟩
  simp [t__law_is_sheet, st0, Cls.d, t__law_is_sheet_1]
  by_cases c0 : c.sl.length ≤ 4
  · rw [if_neg (by omega)]
    simp [t__law_is_sheet_2]
    refine lc_mapF Slt.d (fun s => !slotOk l s) (fun _ => .int 1) (fun s hs K q => ?_) h2 ?_
    · simp [stepLc]
      refine ⟨l, s, ⟨rfl, rfl⟩, hl, h3 s hs, (h6 s hs).1, (h6 s hs).2, ?_⟩
      by_cases z : slotOk l s = true
      · simpa [z] using q
      · simpa [z] using q
    · simp [ie_filter]
      by_cases c1 : c.sl.all (slotOk l) = true
      · rw [if_pos (by simpa using c1)]
        simp [t__law_is_sheet_3]
        refine lc_mapA Slt.d (fun s => .str s.n) (fun s _ K q => by simpa [stepLc, Slt.d] using q) h2 ?_
        have eL : c.sl.map (fun s => D.str s.n) = (c.sl.map (·.n)).map D.str := by simp
        rw [eL]
        simp only [t__law_is_sheet_4]
        simp only [frz_d, List.set]
        have e2 := ded_full _ (c.sl.map (·.n)) rfl
        have cl : (c.sl.map (·.n)).length ≤ 4000 := by rw [List.length_map]; omega
        generalize hL : c.sl.map (·.n) = L at e2 cl ⊢
        simp
        refine ⟨L, rfl, cl, ?_⟩
        by_cases c2 : L.Nodup
        · rw [if_pos (by have := e2.mpr c2; omega)]
          simp [t__law_is_sheet_5]
          have so : slotsOk l c.sl = true := by
            unfold slotsOk
            rw [decide_eq_true c0, c1, hL, decide_eq_true c2]
            rfl
          cases hh : c.h with
          | none =>
            simp [hD]
            exact kbl q (by simp [clsOk, so, hh, hashOk])
          | some ws =>
            obtain ⟨w1, w2⟩ := h4 ws hh
            simp [hD, sD, t__law_is_sheet_6, t__law_is_sheet_7]
            refine lc_mapF D.str (fun s => !decide (s ∈ L)) (fun _ => .int 1) (fun s hs K q => ?_) w1 ?_
            · simp [stepLc]
              by_cases z : s ∈ L
              · simpa [z] using q
              · simpa [z] using q
            · simp [ie_filter]
              by_cases c3 : ∀ x ∈ ws, x ∈ L
              · rw [if_pos c3]
                simp [t__law_is_sheet_8]
                refine ⟨_, _, ⟨rfl, rfl⟩, ?_⟩
                rw [← List.map_tail, zipD_map]
                refine lc_mapF (fun p : Str × Str => D.tup [.str p.1, .str p.2]) (fun p => !sLt p.1 p.2) (fun _ => .int 1) (fun a _ K q => ?_) (by simp [cap] at w1 ⊢; omega) ?_
                · simp [stepLc]
                  by_cases z : sLt a.1 a.2 = true
                  · simpa [z] using q
                  · simpa [z] using q
                · simp [ie_filter]
                  refine kbl q ?_
                  have e4 : ascS ws = (ws.zip ws.tail).all fun p => sLt p.1 p.2 := by rw [ascS_zip]; simp
                  simp only [clsOk, so, hh, hashOk, hL, e4]
                  have c4 : (ws.all fun x => decide (x ∈ L)) = true := by simpa using c3
                  rw [c4]
                  simp
              · rw [if_neg c3]
                refine kbl q ?_
                have c4 : (ws.all fun x => decide (x ∈ L)) = false := by
                  rw [Bool.eq_false_iff]
                  intro z
                  exact c3 (by simpa using z)
                simp only [clsOk, hh, hashOk, hL, c4, Bool.and_false]
        · rw [if_neg fun z => c2 (e2.mp (by omega))]
          refine kbl q ?_
          simp only [clsOk, slotsOk, hL, decide_eq_false c2, Bool.and_false, Bool.false_and]
      · rw [if_neg (by simpa using c1)]
        refine kbl q ?_
        have e : c.sl.all (slotOk l) = false := by simpa using c1
        simp only [clsOk, slotsOk, e, Bool.and_false, Bool.false_and]
  · rw [if_pos (by omega)]
    refine kbl q ?_
    simp only [clsOk, slotsOk, decide_eq_false c0, Bool.false_and]
theorem vc__law_sheets_due : ∀ ds k x, T__law_sheets_due ds k x → t__law_sheets_due (kd0 k x) (st0 n__law_sheets_due.length ds) := by
  rintro ds k x ⟨cs, rfl, hl, hm, q⟩
  simp [t__law_sheets_due, st0]
  have bad : namedOk cs = false → k (.tup [.str "schema", .non]) := fun e => by
    refine kd_ q ?_
    unfold dueD dueC
    rw [e]
    simp
  by_cases ca : 1 ≤ cs.length
  · by_cases cb : cs.length ≤ 4
    · rw [if_pos (by omega), if_neg (by omega)]
      simp [t__law_sheets_due_1]
      refine for_inv (fun ds ρ => ∃ pre post s, cs = pre ++ post ∧ ds = post.map Cls.d ∧ (pre.all fun c => nameS c.n) = true ∧ ρ = [Sl.d (D.lst (List.map Cls.d cs)), s, .u, .u, .u]) ?_ ?_ ⟨[], cs, .u, rfl, rfl, rfl, rfl⟩
      · rintro d ds ρ ⟨pre, post, s, e1, e2, e3, rfl⟩ kd' hr hx hn hc hb
        cases post with
        | nil => cases e2
        | cons c post =>
          simp only [List.map_cons, List.cons.injEq] at e2
          obtain ⟨rfl, rfl⟩ := e2
          have hc2 : c ∈ cs := by rw [e1]; simp
          simp [t__law_sheets_due_b1, Cls.d, kn, smallD, nameD, hr]
          refine ⟨(hm c hc2).1.1, ?_⟩
          by_cases c1 : nameS c.n = true
          · rw [if_pos c1]
            refine hn _ ⟨pre ++ [c], post, _, by rw [e1]; simp, rfl, by simp [e3, c1], rfl⟩
          · rw [if_neg c1]
            refine bad ?_
            have e : (cs.all fun c => nameS c.n) = false := by
              rw [e1]
              simp [c1]
            simp only [namedOk, e, Bool.and_false, Bool.false_and]
      · rintro ρ ⟨pre, post, s, e1, e2, e3, rfl⟩
        have e4 : post = [] := by simpa using e2.symm
        rw [e4, List.append_nil] at e1
        obtain rfl : pre = cs := e1.symm
        simp [t__law_sheets_due_2]
        refine lc_mapA Cls.d (fun c => .str c.n) (fun c _ K q => by simpa [stepLc, Cls.d] using q) hl ?_
        have eN : pre.map (fun c => D.str c.n) = (pre.map (·.n)).map D.str := by simp
        rw [eN]
        simp only [frz_d, List.set]
        simp [t__law_sheets_due_3]
        refine ⟨_, _, ⟨rfl, rfl⟩, ?_⟩
        have eM : pre.map (D.str ∘ fun c => c.n) = (pre.map (·.n)).map D.str := by simp
        rw [eM, ← List.map_tail, zipD_map]
        generalize hL : pre.map (·.n) = L
        have lL : L.length ≤ cap := by rw [← hL, List.length_map]; exact hl
        refine lc_mapF (fun p : Str × Str => D.tup [.str p.1, .str p.2]) (fun p => !sLt p.1 p.2) (fun _ => .int 1) (fun a _ K q => ?_) (by simp [cap] at lL ⊢; omega) ?_
        · simp [stepLc]
          by_cases z : sLt a.1 a.2 = true
          · simpa [z] using q
          · simpa [z] using q
        · simp [ie_filter]
          have e4 : ascS L = (L.zip L.tail).all fun p => sLt p.1 p.2 := by rw [ascS_zip]; simp
          by_cases c4 : ascS L = true
          · rw [if_pos (by rw [e4] at c4; simpa using c4)]
            simp [t__law_sheets_due_4]
            refine lc_mapF Cls.d (fun c => !clsOk L c) (fun c => .str c.n) (fun c hc K q => ?_) hl ?_
            · simp [stepLc]
              refine ⟨L, c, ⟨rfl, rfl⟩, lL, (hm c hc).1, (hm c hc).1.2.1, (hm c hc).2, ?_⟩
              by_cases z : clsOk L c = true
              · simpa [z] using q
              · simpa [z, Cls.d] using q
            · simp only [frz_d, List.set]
              have en : namedOk pre = true := by
                unfold namedOk
                rw [decide_eq_true ca, decide_eq_true cb, e3, hL, c4]
                rfl
              have ef : (pre.find? fun c => !clsOk L c) = (pre.filter fun c => !clsOk L c).head? := by rw [List.head?_filter]
              unfold dueD dueC at q
              rw [if_pos en, hL, ef] at q
              generalize (pre.filter fun c => !clsOk L c) = W at q ⊢
              cases W with
              | nil => simpa [t__law_sheets_due_5] using q
              | cons c W => simpa [t__law_sheets_due_5] using q
          · rw [if_neg (by rw [e4] at c4; simpa using c4)]
            refine bad ?_
            unfold namedOk
            rw [hL]
            have e : ascS L = false := by simpa using c4
            simp only [e, Bool.and_false]
    · rw [if_pos (by omega), if_pos (by omega)]
      exact bad (by simp [namedOk, cb])
  · rw [if_neg (by omega)]
    exact bad (by simp [namedOk, ca])
end DL
namespace DL
open PySem PySem.Spec PyProof.Rows L2
theorem spS_snoc (c : Nat) (s : Str) : ∃ ini last, spS c s = ini ++ [last] := by
  have h : spS c s ≠ [] := by
    unfold spS
    simpa using splitC_ne c s.cps.toList
  exact ⟨(spS c s).dropLast, (spS c s).getLast h, (List.dropLast_concat_getLast h).symm⟩
theorem enumD_cons (i : Nat) (d : D) (ds : List D) : enumD i (d :: ds) = .tup [.int (i : Nat), d] :: enumD (i + 1) ds := rfl
@[simp] theorem hD_pure (h : Option (List Str)) : (hD h).pure = true := by cases h <;> simp [hD]
theorem headO_len {l : Str} {n : Str} {h : Option (List Str)} (hl : l.length + 2 ≤ cap) (e : lineH l = some (n, h)) : n.length ≤ cap ∧ ∀ r, h = some r → r.length ≤ cap ∧ ∀ x ∈ r, x.length ≤ cap := by
  obtain ⟨hlen, hln⟩ := lens (c := 32) hl
  unfold lineH at e
  generalize spS 32 l = W at e hlen hln
  match W, e with
  | a :: m :: g :: r, e =>
    simp only [headO] at e
    simp only [List.length_cons] at hln
    split at e
    · split at e
      · split at e
        · cases e
          exact ⟨hlen _ (by simp), fun r z => nomatch z⟩
        · cases e
      · split at e
        · cases e
          exact ⟨hlen _ (by simp), fun r z => by cases z; exact ⟨by simp only [cap]; omega, fun x hx => hlen x (by simp [hx])⟩⟩
        · cases e
    · cases e
theorem Good.head {i : Nat} {fs : List Cls} {l : Str} {n : Str} {h : Option (List Str)} (g : Good i fs) (hl : l.length + 2 ≤ cap) (e : lineH l = some (n, h)) : Good (i + 1) (fs ++ [⟨n, [], h⟩]) := by
  obtain ⟨h1, h2⟩ := headO_len hl e
  refine ⟨by have := g.len; simp; omega, fun c hc => ?_⟩
  rcases List.mem_append.mp hc with hc | hc
  · obtain ⟨a1, a2, a3, a4⟩ := g.it c hc
    exact ⟨a1, by omega, a3, a4⟩
  · rw [List.mem_singleton.mp hc]
    exact ⟨h1, Nat.zero_le _, (fun s hs => by cases hs), h2⟩
theorem holeO_sm {l : Str} {s : Slt} (hl : l.length + 2 ≤ cap) (e : lineS l = some s) : s.sm ∧ s.w ∈ whenS ∧ s.f ∈ formS := by
  have h2 : (mkS (l.cps.toList.drop 2)).length + 2 ≤ cap := by
    rw [mkS_len, List.length_drop, ← slen]
    omega
  obtain ⟨hlen, hln⟩ := lens (c := 32) h2
  unfold lineS at e
  generalize decide (l.cps.toList.take 2 = [32, 32]) = m at e
  generalize spS 32 (mkS (l.cps.toList.drop 2)) = W at e hlen hln
  match W, e with
  | n :: w :: f :: g :: r, e =>
    simp only [holeO] at e
    simp only [List.length_cons] at hln
    split at e
    · rename_i c
      cases e
      refine ⟨⟨hlen _ (by simp), hlen _ (by simp), hlen _ (by simp), ?_, ?_⟩, c.2.2.1, c.2.2.2.1⟩
      · simp only [List.length_map, List.length_cons, cap]
        omega
      · intro x hx
        obtain ⟨y, hy, rfl⟩ := List.mem_map.mp hx
        unfold fixG
        split
        · simp [cap]
        · refine hlen y ?_
          rcases List.mem_cons.mp hy with e | hy
          · simp [e]
          · simp [hy]
    · cases e
theorem Good.slot {i : Nat} {pre : List Cls} {f : Cls} {l : Str} {s : Slt} (g : Good i (pre ++ [f])) (hl : l.length + 2 ≤ cap) (e : lineS l = some s) : Good (i + 1) (pre ++ [⟨f.n, f.sl ++ [s], f.h⟩]) := by
  have h1 := holeO_sm hl e
  refine ⟨by have := g.len; simp at this ⊢; omega, fun c hc => ?_⟩
  rcases List.mem_append.mp hc with hc | hc
  · obtain ⟨a1, a2, a3, a4⟩ := g.it c (by simp [hc])
    exact ⟨a1, by omega, a3, a4⟩
  · rw [List.mem_singleton.mp hc]
    obtain ⟨a1, a2, a3, a4⟩ := g.it f (by simp)
    refine ⟨a1, by simp; omega, fun x hx => ?_, a4⟩
    rcases List.mem_append.mp hx with hx | hx
    · exact a3 x hx
    · rw [List.mem_singleton.mp hx]
      exact h1
theorem vc_loop {k : D → Prop} {x : Kx} {tx : D} {L : D} {isE : D} {kd : KD} {tok : Tok kd} {ls : List Str} (hrt : kd.rt = fun _ => k) (hll : ∀ l ∈ ls, l.length + 2 ≤ cap) (hn : ls.length + 1 ≤ cap)
    (hbad : ∀ i, rdL 0 ls [] = .inl i → k (.tup [.str "text", .int (i : Nat)])) (hgood : ∀ fs s5 s6 s7 s8, rdL 0 ls [] = .inr fs → Good ls.length fs → kd.nx [.d tx, .d L, .u, .d isE, .o (fs.map Cls.d), s5, s6, s7, s8]) :
    ForR (gT 2 (gsC (gN 5) (gsC (gN 6) gsN))) t__law_read_sheets_b4 kd tok (enumD 0 (ls.map D.str)) [.d tx, .d L, .u, .d isE, .o [], .u, .u, .u, .u] := by
  refine for_inv (fun ds ρ => ∃ i rest fs s5 s6 s7 s8, ds = enumD i (rest.map D.str) ∧ (∀ l ∈ rest, l.length + 2 ≤ cap) ∧ i + rest.length = ls.length ∧ rdL i rest fs = rdL 0 ls [] ∧ Good i fs ∧ ρ = [.d tx, .d L, .u, .d isE, .o (fs.map Cls.d), s5, s6, s7, s8]) ?_ ?_
    ⟨0, ls, [], .u, .u, .u, .u, rfl, hll, by simp, rfl, ⟨Nat.le_refl _, fun _ z => nomatch z⟩, rfl⟩
  · rintro d ds ρ ⟨i, rest, fs, s5, s6, s7, s8, e1, h1, h2, e3, g, rfl⟩ kd' hr hx hn' hc hb
    cases rest with
    | nil => cases e1
    | cons l rest =>
      rw [List.map_cons, enumD_cons, List.cons.injEq] at e1
      obtain ⟨rfl, rfl⟩ := e1
      have hl := h1 l (by simp)
      simp [t__law_read_sheets_b4]
      refine ⟨hl, ?_⟩
      have eH := headD_O l
      have eS := holeD_O l
      simp only [rdL] at e3
      have cp := hn
      simp only [cap] at cp
      simp only [List.length_cons] at h2
      cases eh : lineH l with
      | some p =>
        obtain ⟨n, h⟩ := p
        rw [eh] at e3 eH
        simp [t__law_read_sheets_b4_1, eH, t__law_read_sheets_b1]
        have eF : List.map Cls.d fs ++ [D.tup [D.str n, D.tup [], hD h]] = (fs ++ ([⟨n, [], h⟩] : List Cls)).map Cls.d := by simp [Cls.d]
        rw [eF]
        exact ⟨by have := g.len; omega, hn' _ ⟨i + 1, rest, fs ++ [⟨n, [], h⟩], _, _, _, _, rfl, fun l hl => h1 l (by simp [hl]), by omega, e3, Good.head g hl eh, rfl⟩⟩
      | none =>
        rw [eh] at e3 eH
        simp [t__law_read_sheets_b4_1, eH]
        cases es : lineS l with
        | some sl =>
          rw [es] at eS e3
          simp only at e3
          by_cases c : fs.isEmpty = true
          · rw [if_pos c] at e3
            simp at c
            simp [t__law_read_sheets_b3, eS, Slt.d, c]
            rw [hr, hrt]
            exact hbad i e3.symm
          · rw [if_neg c] at e3
            obtain ⟨pre, f, rfl⟩ : ∃ pre f, fs = pre ++ [f] := ⟨fs.dropLast, fs.getLast (by simpa using c), (List.dropLast_concat_getLast _).symm⟩
            simp [t__law_read_sheets_b3, eS, Slt.d, Cls.d]
            simp [t__law_read_sheets_b2]
            have eA := addLast_map (fs := pre ++ [f]) (s := sl) (pre := pre) (c := f) rfl
            have eF : List.map Cls.d pre ++ [D.tup [D.str f.n, D.tup (List.map Slt.d f.sl ++ [D.tup [D.str sl.n, D.str sl.w, D.str sl.f, sD sl.g]]), hD f.h]] = (addLast (pre ++ [f]) sl).map Cls.d := by
              rw [eA]
              simp [Cls.d, Slt.d]
            have gl := (g.it f (by simp)).2.1
            rw [eF]
            exact ⟨by omega, hn' _ ⟨i + 1, rest, addLast (pre ++ [f]) sl, _, _, _, _, rfl, fun l hl => h1 l (by simp [hl]), by omega, e3, by rw [eA]; exact Good.slot g hl es, rfl⟩⟩
        | none =>
          rw [es] at eS e3
          simp [t__law_read_sheets_b3, eS]
          rw [hr, hrt]
          exact hbad i e3.symm
  · rintro ρ ⟨i, rest, fs, s5, s6, s7, s8, e1, h1, h2, e3, g, rfl⟩
    cases rest with
    | cons l rest => cases e1
    | nil =>
      refine hgood fs _ _ _ _ (by rw [← e3]; rfl) ?_
      have e : i = ls.length := by simpa using h2
      rw [← e]
      exact g
theorem readW_e1 {ini : List Str} {i : Nat} (e : rdL 0 ini [] = .inl i) : readW (ini ++ [⟨#[]⟩]) = .text i := by
  unfold readW
  rw [if_pos (by simp)]
  simp [e]
theorem readW_e2 {ini : List Str} {cs : List Cls} (e : rdL 0 ini [] = .inr cs) : readW (ini ++ [⟨#[]⟩]) = match dueC cs with
    | none => .value cs
    | some n => .schema n := by
  unfold readW
  rw [if_pos (by simp)]
  simp [e] <;> (cases dueC cs <;> rfl)
theorem readW_n1 {ini : List Str} {last : Str} {i : Nat} (c : ¬ last = ⟨#[]⟩) (e : rdL 0 (ini ++ [last]) [] = .inl i) : readW (ini ++ [last]) = .text i := by
  unfold readW
  rw [if_neg (by simpa using c), e]
theorem readW_n2 {ini : List Str} {last : Str} {cs : List Cls} (c : ¬ last = ⟨#[]⟩) (e : rdL 0 (ini ++ [last]) [] = .inr cs) : readW (ini ++ [last]) = .text (ini ++ [last]).length := by
  unfold readW
  rw [if_neg (by simpa using c), e]
theorem vc__law_read_sheets : ∀ ds k x, T__law_read_sheets ds k x → t__law_read_sheets (kd0 k x) (st0 n__law_read_sheets.length ds) := by
  intro ds k x h
  unfold T__law_read_sheets at h
  split at h
  · rename_i t
    obtain ⟨h1, q⟩ := h
    simp [t__law_read_sheets, st0]
    by_cases c0 : t = ⟨#[]⟩
    · rw [if_pos c0]
      have e : readR t = .text 0 := by
        unfold readR
        rw [if_pos (by simp [c0])]
      rw [e] at q
      exact q
    · rw [if_neg c0]
      have e : readR t = readW (spS 10 t) := by
        unfold readR
        rw [if_neg (by simpa using c0)]
      rw [e] at q
      simp [t__law_read_sheets_1]
      refine ⟨by simp [cap] at h1; omega, ?_⟩
      obtain ⟨hlen, hln⟩ := lens (c := 10) h1
      obtain ⟨ini, last, eL⟩ := spS_snoc 10 t
      rw [eL] at q hlen hln ⊢
      simp [t__law_read_sheets_2]
      simp [t__law_read_sheets_3]
      have cp := h1
      simp only [cap] at cp
      have hll : ∀ l ∈ ini ++ [last], l.length + 2 ≤ cap := fun l hl => by
        have := spS_mem (c := 10) (s := t) (w := l) (by rw [eL]; exact hl)
        simp only [cap]
        omega
      have hnn : (ini ++ [last]).length + 1 ≤ cap := by
        have := spS_len 10 t
        rw [eL] at this
        simp only [cap]
        omega
      by_cases c1 : last = ⟨#[]⟩
      · rw [if_pos c1]
        subst c1
        refine vc_loop (k := k) (x := x) rfl (fun l hl => hll l (by simp [hl])) (by simp at hnn ⊢; omega) (fun i e => ?_) fun fs s5 s6 s7 s8 e g => ?_
        · rw [readW_e1 e] at q
          exact q
        · simp [t__law_read_sheets_4, t__law_read_sheets_5]
          obtain ⟨g1, g2⟩ := g.sm (by simp at hnn; simp only [cap] at hnn ⊢; omega)
          refine ⟨fs, rfl, g1, g2, ?_⟩
          rw [readW_e2 e] at q
          cases ed : dueC fs with
          | none =>
            rw [ed] at q
            have e1 : dueD fs = .non := by unfold dueD; rw [ed]
            simp [t__law_read_sheets_6, e1]
            exact q
          | some z =>
            rw [ed] at q
            cases z with
            | none =>
              have e1 : dueD fs = .tup [.str "schema", .non] := by unfold dueD; rw [ed]
              simp [t__law_read_sheets_6, e1]
              exact q
            | some z =>
              have e1 : dueD fs = .tup [.str "schema", .str z] := by unfold dueD; rw [ed]
              simp [t__law_read_sheets_6, e1]
              exact q
      · rw [if_neg c1]
        have e9 : List.map D.str ini ++ [D.str last] = (ini ++ [last]).map D.str := by simp
        rw [e9]
        refine vc_loop (k := k) (x := x) rfl hll hnn (fun i e => ?_) fun fs s5 s6 s7 s8 e g => ?_
        · rw [readW_n1 c1 e] at q
          exact q
        · rw [readW_n2 c1 e] at q
          simp [t__law_read_sheets_4, c1]
          simpa [SR.d] using q
  · exact h.elim
end DL
namespace DL
open PySem PySem.Spec PyProof.Rows L2
theorem atI_in {α : Type} {xs : List α} {r : Int} (h0 : 0 ≤ r) (h1 : r < xs.length) : ∃ d, atI xs r = some d ∧ d ∈ xs := by
  obtain ⟨n, rfl⟩ := Int.eq_ofNat_of_zero_le h0
  have hn : n < xs.length := by omega
  exact ⟨xs[n], by rw [atI_nat, List.getElem?_eq_getElem hn], List.getElem_mem hn⟩
theorem sum_le {m : Nat} : ∀ {l : List Nat}, (∀ x ∈ l, x ≤ m) → l.sum ≤ l.length * m
  | [], _ => by simp
  | a :: l, h => by
    have ih := sum_le (l := l) fun x hx => h x (List.mem_cons_of_mem _ hx)
    have ha := h a List.mem_cons_self
    simp only [List.sum_cons, List.length_cons, Nat.add_mul, Nat.one_mul]
    omega
theorem vc__law_pick : ∀ ds k x, T__law_pick ds k x → t__law_pick (kd0 k x) (st0 n__law_pick.length ds) := by
  intro ds k x h
  unfold T__law_pick at h
  split at h
  · rename_i xs
    obtain ⟨h1, h2, q⟩ := h
    simp [t__law_pick, st0]
    refine ⟨h1, by omega, fun r h3 h4 => ?_⟩
    obtain ⟨d, e, m⟩ := atI_in h3 h4
    exact ⟨d, e, q d m⟩
  · rename_i z
    obtain ⟨h1, h2, q⟩ := h
    simp [t__law_pick, st0]
    refine ⟨by omega, h1, by omega, fun r h3 h4 => ⟨by omega, ?_⟩⟩
    rw [slen] at h4
    obtain ⟨d, e, m⟩ := atI_in h3 h4
    exact ⟨d, e, q d m⟩
  · exact h.elim
theorem str_app_len (a b : Str) : (a ++ b).length = a.length + b.length := by
  show (a.cps ++ b.cps).size = _
  simp [Str.length]
theorem join_len {y : Str} {parts : List Str} : (PySem.Txt.join y parts).length ≤ (parts.map (·.length)).sum + parts.length * y.length := by
  rw [slen, join_codes]
  have key : ∀ (S : List Nat) (ps : List (List Nat)), (TL.joinL S ps).length ≤ (ps.map (·.length)).sum + ps.length * S.length := by
    intro S ps
    induction ps with
    | nil => simp [TL.joinL]
    | cons p ps ih =>
      cases ps with
      | nil =>
        show p.length ≤ _
        simp
      | cons q r =>
        show (p ++ (S ++ TL.joinL S (q :: r))).length ≤ _
        simp only [List.length_append, List.map_cons, List.sum_cons, List.length_cons, Nat.add_mul, Nat.one_mul] at ih ⊢
        omega
  have := key y.cps.toList (parts.map fun s => s.cps.toList)
  simpa [slen, Function.comp_def] using this
theorem vc__law_page : ∀ ds k x, T__law_page ds k x → t__law_page (kd0 k x) (st0 n__law_page.length ds) := by
  rintro ds k x ⟨ls, rfl, h1, h2, q⟩
  simp [t__law_page, st0]
  refine lc_mapA D.str (fun l => .str (l ++ "\n")) (fun l hl K q => ?_) (by omega) ?_
  · simp [stepLc] at q ⊢
    exact ⟨by have := h2 l hl; omega, q⟩
  · simp
    have hs := sum_le (m := 1001) (l := ((ls.map fun l => l ++ ⟨#[10]⟩).map fun x : Str => x.length)) fun x hx => by
      simp only [List.map_map, List.mem_map, Function.comp] at hx
      obtain ⟨l, hl, rfl⟩ := hx
      rw [str_app_len]
      have := h2 l hl
      simp
      omega
    rw [List.length_map, List.length_map] at hs
    have hj := join_len (y := ⟨#[]⟩) (parts := ls.map fun l => l ++ ⟨#[10]⟩)
    have hz : ((⟨#[]⟩ : Str).length) = 0 := by simp
    rw [hz, Nat.mul_zero, Nat.add_zero] at hj
    refine ⟨ls.map fun l => l ++ ⟨#[10]⟩, by simp, by omega, ?_⟩
    exact q _ (by simp) (by omega)
theorem linesC_len {c : Cls} (h : SmC c) : (linesC c).length ≤ 21 := by
  have := h.sl
  simp [linesC]
  omega
theorem vc__law_schema_lines : ∀ ds k x, T__law_schema_lines ds k x → t__law_schema_lines (kd0 k x) (st0 n__law_schema_lines.length ds) := by
  rintro ds k x ⟨cs, rfl, h1, h2, q⟩
  simp [t__law_schema_lines, st0, t__law_schema_lines_1]
  refine for_inv (fun ds ρ => ∃ pre post s, cs = pre ++ post ∧ ds = post.map Cls.d ∧ (pre.flatMap linesC).length ≤ pre.length * 21 ∧ ρ = [Sl.d (D.lst (List.map Cls.d cs)), .d (.lst ((pre.flatMap linesC).map D.str)), s]) ?_ ?_ ⟨[], cs, .u, rfl, rfl, by simp, rfl⟩
  · rintro d ds ρ ⟨pre, post, s, e1, e2, e3, rfl⟩ kd' hr hx hn hc hb
    cases post with
    | nil => cases e2
    | cons c post =>
      simp only [List.map_cons, List.cons.injEq] at e2
      obtain ⟨rfl, rfl⟩ := e2
      have hc2 : c ∈ cs := by rw [e1]; simp
      have hl := linesC_len (h2 c hc2)
      have hp : pre.length ≤ 20 := by
        have := congrArg List.length e1
        simp at this
        omega
      simp
      refine ⟨c, rfl, h2 c hc2, ?_⟩
      refine ⟨by simp at e3; omega, hn _ ⟨pre ++ [c], post, _, by rw [e1]; simp, rfl, by simp at e3 ⊢; omega, by simp; rfl⟩⟩
  · rintro ρ ⟨pre, post, s, e1, e2, e3, rfl⟩
    have e4 : post = [] := by simpa using e2.symm
    rw [e4, List.append_nil] at e1
    obtain rfl : pre = cs := e1.symm
    simpa [t__law_schema_lines_2] using q
theorem lineO_none {c : Cls} (e : c.h = none) : lineO c = PySem.Txt.join ⟨#[32]⟩ ["class", c.n, "own"] := by unfold lineO; rw [e, ← lit_sp]; rfl
theorem lineO_some {c : Cls} {l : List Str} (e : c.h = some l) : lineO c = PySem.Txt.join ⟨#[32]⟩ ("class" :: c.n :: "reads" :: l) := by unfold lineO; rw [e, ← lit_sp]; rfl
theorem slotL_eq (s : Slt) : slotL s = ⟨#[32, 32]⟩ ++ PySem.Txt.join ⟨#[32]⟩ (s.n :: s.w :: s.f :: s.g.map hashAny) := by unfold slotL; rw [← lit_sp, ← lit_sp2]; rfl
theorem sum6 {l : List Str} (h : ∀ x ∈ l, x.length ≤ 6) : (l.map (·.length)).sum ≤ l.length * 6 := by
  have := sum_le (m := 6) (l := l.map (·.length)) fun x hx => by
    obtain ⟨y, hy, rfl⟩ := List.mem_map.mp hx
    exact h y hy
  simpa using this
theorem hash6 {s : Slt} (h : SmS s) : ∀ x ∈ s.g.map hashAny, x.length ≤ 6 := fun x hx => by
  obtain ⟨y, hy, rfl⟩ := List.mem_map.mp hx
  unfold hashAny
  split
  · decide +kernel
  · exact h.gs y hy
theorem sheet_loop {c : Cls} (h : SmC c) {a2 a3 a4 : Sl} {a0 : D} {kd : KD} {tok : Tok kd} (fin : ∀ s5 s6 s7 s8 s9 s10, kd.nx [.d a0, .o ((linesC c).map D.str), a2, a3, a4, s5, s6, s7, s8, s9, s10]) :
    ForR (gT 4 (gsC (gN 5) (gsC (gN 6) (gsC (gN 7) (gsC (gN 8) gsN))))) t__law_sheet_lines_b1 kd tok (c.sl.map Slt.d) [.d a0, .o [.str (lineO c)], a2, a3, a4, .u, .u, .u, .u, .u, .u] := by
  refine for_inv (fun ds ρ => ∃ pre post s5 s6 s7 s8 s9 s10, c.sl = pre ++ post ∧ ds = post.map Slt.d ∧ ρ = [.d a0, .o ((lineO c :: pre.map slotL).map D.str), a2, a3, a4, s5, s6, s7, s8, s9, s10]) ?_ ?_ ⟨[], c.sl, .u, .u, .u, .u, .u, .u, rfl, rfl, rfl⟩
  · rintro d ds ρ ⟨pre, post, s5, s6, s7, s8, s9, s10, e1, e2, rfl⟩ kd' hr hx hn hc hb
    cases post with
    | nil => cases e2
    | cons s post =>
      simp only [List.map_cons, List.cons.injEq] at e2
      obtain ⟨rfl, rfl⟩ := e2
      have hs : s ∈ c.sl := by rw [e1]; simp
      have sm := h.s s hs
      have hp : pre.length ≤ 20 := by
        have := congrArg List.length e1
        have h2 := h.sl
        simp at this
        omega
      simp [t__law_sheet_lines_b1, Slt.d, sD]
      refine lc_mapA D.str (fun g => .str (hashAny g)) (fun g hg K q => ?_) (by have := sm.g; omega) ?_
      · simp [stepLc, hashAny] at q ⊢
        by_cases z : g = ⟨#[]⟩
        · simpa [z] using q
        · simpa [z] using q
      · have eg : s.g.map (fun g => D.str (hashAny g)) = (s.g.map hashAny).map D.str := by simp
        have h6 := sum6 (hash6 sm)
        have hl : (s.g.map hashAny).length ≤ 20 := by rw [List.length_map]; exact sm.g
        rw [eg]
        simp only [frz_d, List.set]
        generalize hG : s.g.map hashAny = G at h6 hl
        simp [t__law_sheet_lines_b1_1]
        have b1 := sm.n
        have b2 := sm.w
        have b3 := sm.f
        refine ⟨by omega, s.n :: s.w :: s.f :: G, by simp, by simp; omega, ?_, by omega, ?_⟩
        · have := join_len (y := ⟨#[32]⟩) (parts := s.n :: s.w :: s.f :: G)
          simp at this
          omega
        · have eF : D.str (lineO c) :: (List.map (D.str ∘ slotL) pre ++ [D.str ((⟨#[32, 32]⟩ : Str) ++ PySem.Txt.join ⟨#[32]⟩ (s.n :: s.w :: s.f :: G))]) = (lineO c :: (pre ++ [s]).map slotL).map D.str := by
            rw [← hG]
            simp [slotL_eq]
          rw [eF]
          exact hn _ ⟨pre ++ [s], post, _, _, _, _, _, _, by rw [e1]; simp, rfl, rfl⟩
  · rintro ρ ⟨pre, post, s5, s6, s7, s8, s9, s10, e1, e2, rfl⟩
    have e4 : post = [] := by simpa using e2.symm
    rw [e4, List.append_nil] at e1
    have e5 : lineO c :: pre.map slotL = linesC c := by unfold linesC; rw [e1]
    rw [e5]
    exact fin _ _ _ _ _ _
theorem vc__law_sheet_lines : ∀ ds k x, T__law_sheet_lines ds k x → t__law_sheet_lines (kd0 k x) (st0 n__law_sheet_lines.length ds) := by
  rintro ds k x ⟨c, rfl, h, q⟩
  simp [t__law_sheet_lines, st0, Cls.d, t__law_sheet_lines_1]
  have b1 := h.n
  have l1 : (Str.ofString "class").length = 5 := by decide +kernel
  have l2 : (Str.ofString "own").length = 3 := by decide +kernel
  have l3 : (Str.ofString "reads").length = 5 := by decide +kernel
  cases e : c.h with
  | none =>
    simp [hD]
    refine ⟨["class", c.n, "own"], by simp, ?_, ?_⟩
    · simp [l1, l2]
      omega
    · simp [t__law_sheet_lines_2]
      rw [← lineO_none e]
      exact sheet_loop h fun s5 s6 s7 s8 s9 s10 => by simpa [t__law_sheet_lines_3] using q
  | some l =>
    obtain ⟨b2, b3⟩ := h.h l e
    have h6 := sum6 b3
    simp [hD, sD]
    refine ⟨by omega, by omega, "class" :: c.n :: "reads" :: l, by simp, ?_, ?_⟩
    · simp [l1, l3]
      omega
    · simp [t__law_sheet_lines_2]
      rw [← lineO_some e]
      exact sheet_loop h fun s5 s6 s7 s8 s9 s10 => by simpa [t__law_sheet_lines_3] using q
end DL
namespace DL
open PySem PySem.Spec PyProof.Rows L2
theorem ex_map {α : Type} {f : α → D} {P : α → Prop} : ∀ {ys : List D}, (∀ y ∈ ys, ∃ s, y = f s ∧ P s) → ∃ gs : List α, ys = gs.map f ∧ ∀ s ∈ gs, P s
  | [], _ => ⟨[], rfl, fun _ z => nomatch z⟩
  | y :: ys, h => by
    obtain ⟨s, e, p⟩ := h y List.mem_cons_self
    obtain ⟨gs, e2, p2⟩ := ex_map fun z hz => h z (List.mem_cons_of_mem _ hz)
    refine ⟨s :: gs, by rw [e, e2]; rfl, fun x hx => ?_⟩
    rcases List.mem_cons.mp hx with e3 | hx
    · rw [e3]; exact p
    · exact p2 x hx
theorem vc__law_hole : ∀ ds k x, T__law_hole ds k x → t__law_hole (kd0 k x) (st0 n__law_hole.length ds) := by
  rintro ds k x ⟨crew, label, rfl, h1, h2, h3, q⟩
  simp [t__law_hole, st0]
  refine ⟨crew, rfl, by omega, fun ys hp hs => ?_⟩
  have ly : ys.length ≤ 10 := by rw [hp.length_eq]; exact h1
  have h6 : ∀ y ∈ ys, y.length ≤ 6 := fun y hy => h2 y (hp.mem_iff.mp hy)
  refine ⟨by omega, ?_⟩
  have e0 : D.str ⟨#[]⟩ :: List.map D.str ys = ((⟨#[]⟩ : Str) :: ys).map D.str := rfl
  rw [e0]
  refine lc_good (fun y => ∃ s : Str, y = .str s ∧ s.length ≤ 6) (fun d hd K hK => ?_) (by simp; omega) fun zs hz hl => ?_
  · obtain ⟨s, hs2, rfl⟩ := List.mem_map.mp hd
    have hs3 : s.length ≤ 6 := by
      rcases List.mem_cons.mp hs2 with e | hm
      · rw [e]; simp
      · exact h6 s hm
    simp [stepLc]
    intro r r0 r1
    split
    · exact hK _ fun y hy => by cases hy; exact ⟨s, rfl, hs3⟩
    · exact hK _ fun y hy => by cases hy
  · obtain ⟨gs, rfl, hg⟩ := ex_map hz
    have lg : gs.length ≤ 11 := by simp at hl; omega
    have fin : ∀ gs2 : List Str, gs2.length ≤ 11 → (∀ s ∈ gs2, s.length ≤ 6) → t__law_hole_2 (kd0 k x) [Sl.d D.drw, Sl.d (D.lst (List.map D.str crew)), Sl.d (D.str label), Sl.d (.lst (gs2.map D.str)), .u, .u] := fun gs2 l2 p2 => by
      simp [t__law_hole_2, t__law_hole_3]
      have l1 : (Str.ofString "first").length ≤ 6 := by decide +kernel
      have l3 : (Str.ofString "later").length ≤ 6 := by decide +kernel
      have l4 : (Str.ofString "one").length ≤ 6 := by decide +kernel
      have l5 : (Str.ofString "row").length ≤ 6 := by decide +kernel
      have l6 : (Str.ofString "set").length ≤ 6 := by decide +kernel
      refine ⟨⟨?_, ?_, ?_⟩, ?_, ?_, ?_⟩
      · exact q ⟨label, _, _, gs2⟩ ⟨h3, l1, l4, by simp; omega, p2⟩
      · exact q ⟨label, _, _, gs2⟩ ⟨h3, l1, l5, by simp; omega, p2⟩
      · exact q ⟨label, _, _, gs2⟩ ⟨h3, l1, l6, by simp; omega, p2⟩
      · exact q ⟨label, _, _, gs2⟩ ⟨h3, l3, l4, by simp; omega, p2⟩
      · exact q ⟨label, _, _, gs2⟩ ⟨h3, l3, l5, by simp; omega, p2⟩
      · exact q ⟨label, _, _, gs2⟩ ⟨h3, l3, l6, by simp; omega, p2⟩
    simp [t__law_hole_1]
    by_cases c : gs = []
    · simp [c]
      refine ⟨crew, rfl, by omega, fun ys2 hp2 hs2 => ?_⟩
      have ly2 : ys2.length ≤ 10 := by rw [hp2.length_eq]; exact h1
      refine ⟨by omega, by omega, ?_, fun z hz2 => ?_⟩
      · exact fin [⟨#[]⟩] (by simp) (by simp)
      · exact fin [z] (by simp) (by simpa using h2 z (hp2.mem_iff.mp hz2))
    · simp [c]
      exact fin gs lg hg
end DL
namespace DL
open PySem PySem.Spec PyProof.Rows L2
theorem vc__law_sheet : ∀ ds k x, T__law_sheet ds k x → t__law_sheet (kd0 k x) (st0 n__law_sheet.length ds) := by
  rintro ds k x ⟨crew, label, most, rfl, h1, h2, h3, h4, h5, q⟩
  simp [t__law_sheet, st0]
  refine ⟨by omega, by omega, fun r r0 r1 => ⟨r0, by omega, fun ls el h6 => ?_⟩⟩
  simp [t__law_sheet_1]
  refine lc_good (fun y => ∃ s : Slt, y = s.d ∧ SmS s) (fun d hd K hK => ?_) (by simp; omega) fun ys hy hl => ?_
  · obtain ⟨s, hs, rfl⟩ := List.mem_map.mp hd
    simp [stepLc]
    refine ⟨crew, s, ⟨rfl, rfl⟩, h1, h2, h6 s hs, fun t ht => ?_⟩
    exact hK _ fun y e => by cases e; exact ⟨t, rfl, ht⟩
  · obtain ⟨sl, rfl, hsl⟩ := ex_map hy
    have ll : sl.length ≤ ls.length := by simpa using hl
    simp [t__law_sheet_2]
    refine lc_good (fun y => ∃ s : Str, y = .str s ∧ s.length ≤ 6) (fun d hd K hK => ?_) (by simp; omega) fun zs hz hl2 => ?_
    · obtain ⟨s, hs, rfl⟩ := List.mem_map.mp hd
      simp [stepLc, Slt.d]
      intro r r0 r1
      split
      · exact hK _ fun y e => by cases e; exact ⟨_, rfl, (hsl s hs).n⟩
      · exact hK _ fun y e => by cases e
    · obtain ⟨ns, rfl, hn⟩ := ex_map hz
      have ln : ns.length ≤ ls.length := by simp at hl2; omega
      simp
      refine ⟨ns, rfl, by omega, fun ws hp hs => ?_⟩
      have lw : ws.length ≤ ls.length := by rw [hp.length_eq]; exact ln
      have hw : ∀ w ∈ ws, w.length ≤ 6 := fun w hw => hn w (hp.mem_iff.mp hw)
      simp [t__law_sheet_3]
      intro r2 r3 r4
      split
      · exact q ⟨label, sl, none⟩ ⟨h3, by simp; omega, hsl, fun l e => nomatch e⟩ (by simp; omega)
      · exact q ⟨label, sl, some ws⟩ ⟨h3, by simp; omega, hsl, fun l e => by cases e; exact ⟨by omega, hw⟩⟩ (by simp; omega)
theorem vc__law_sheets : ∀ ds k x, T__law_sheets ds k x → t__law_sheets (kd0 k x) (st0 n__law_sheets.length ds) := by
  intro ds k x h
  unfold T__law_sheets at h
  split at h
  · rename_i many most
    obtain ⟨h1, h2, h3, h4, q⟩ := h
    simp [t__law_sheets, st0]
    refine ⟨h1, by omega, fun r r0 r1 => ⟨by omega, by omega, fun ls el h6 => ⟨ls, rfl, by omega, fun ys hp hs => ?_⟩⟩⟩
    have ly : (ys.length : Int) ≤ many := by rw [hp.length_eq]; omega
    have hy : ∀ y ∈ ys, y.length ≤ 6 := fun y hy => h6 y (hp.mem_iff.mp hy)
    simp [t__law_sheets_1]
    refine for_inv (fun ds ρ => ∃ (pre post : List Str) (cs : List Cls) (left : Int) (s : Sl), ys = pre ++ post ∧ ds = post.map D.str ∧ cs.length = pre.length ∧ (∀ c ∈ cs, SmC c) ∧ 0 ≤ left ∧ left ≤ 12 ∧
      ρ = [.d .drw, .d (.int many), .d (.int most), s, .d (.lst (ys.map D.str)), .o (cs.map Cls.d), .d (.int left)]) ?_ ?_ ⟨[], ys, [], 12, .u, rfl, rfl, rfl, (fun _ z => by cases z), by omega, by omega, rfl⟩
    · rintro d ds ρ ⟨pre, post, cs, left, s, e1, e2, e3, e4, e5, e6, rfl⟩ kd' hr hx hn hc hb
      cases post with
      | nil => cases e2
      | cons l post =>
        simp only [List.map_cons, List.cons.injEq] at e2
        obtain ⟨rfl, rfl⟩ := e2
        have hl : l.length ≤ 6 := hy l (by rw [e1]; simp)
        have lp : pre.length ≤ ys.length := by rw [e1]; simp
        simp [t__law_sheets_b1]
        refine ⟨ys, l, _, ⟨rfl, rfl, rfl⟩, by omega, hy, hl, by split <;> omega, by split <;> omega, fun c hc hcl => ⟨by omega, ?_⟩⟩
        simp [t__law_sheets_b1_1, Cls.d]
        have eF : List.map Cls.d cs ++ [D.tup [D.str c.n, D.tup (List.map Slt.d c.sl), hD c.h]] = (cs ++ [c]).map Cls.d := by simp [Cls.d]
        rw [eF]
        exact hn _ ⟨pre ++ [l], post, cs ++ [c], _, _, by rw [e1]; simp, rfl, by simp [e3], fun x hx => (List.mem_append.mp hx).elim (e4 x) fun hx => by rw [List.mem_singleton.mp hx]; exact hc, by split at hcl <;> omega, by omega, rfl⟩
    · rintro ρ ⟨pre, post, cs, left, s, e1, e2, e3, e4, e5, e6, rfl⟩
      have e9 : post = [] := by simpa using e2.symm
      rw [e9, List.append_nil] at e1
      simp [t__law_sheets_2]
      exact q cs (by rw [e3, ← e1]; exact ly) e4
  · exact h.elim
end DL
namespace DL
open PySem PySem.Spec PyProof.Rows L2
theorem pig : ∀ {A B : List Str}, A.Nodup → (∀ a ∈ A, a ∈ B) → A.length ≤ B.length
  | [], _, _, _ => by simp
  | a :: A, B, h, m => by
    have h2 := List.nodup_cons.mp h
    have ih := pig (A := A) (B := B.erase a) h2.2 fun x hx => by
      have ne : x ≠ a := fun z => h2.1 (z ▸ hx)
      exact (List.mem_erase_of_ne ne).mpr (m x (List.mem_cons_of_mem _ hx))
    have hb : a ∈ B := m a List.mem_cons_self
    rw [List.length_erase_of_mem hb] at ih
    have := List.length_pos_of_mem hb
    simp only [List.length_cons]
    omega
def other (lab : Str) (c : Nat) : Str := mkS (lab.cps.toList.take 5) ++ (⟨#[c]⟩ : Str)
theorem other_len (lab : Str) (c : Nat) : (other lab c).length ≤ 6 := by
  unfold other
  rw [str_app_len, mkS_len, List.length_take]
  simp
  omega
theorem other_cps (lab : Str) (c : Nat) : (other lab c).cps.toList = lab.cps.toList.take 5 ++ [c] := by
  show (Array.toList (_ ++ _)) = _
  simp
theorem other_inj {lab : Str} {c d : Nat} (h : other lab c = other lab d) : c = d := by
  have := congrArg (fun s : Str => s.cps.toList) h
  simpa [other_cps] using this
theorem other_new {lab low : Str} {ls : List Str} (f1 : low.length = 26) (f2 : low.cps.toList.Nodup) (hls : ls.length ≤ 20) : ∃ w ∈ low.cps.toList.map (other lab), w ∉ ls := by
  refine Classical.byContradiction fun z => ?_
  have all : ∀ w ∈ low.cps.toList.map (other lab), w ∈ ls := fun w hw => Classical.byContradiction fun q => z ⟨w, hw, q⟩
  have nd : (low.cps.toList.map (other lab)).Nodup := by
    refine List.Pairwise.map _ (fun x y hxy e => hxy (other_inj e)) f2
  have := pig nd all
  rw [List.length_map, ← slen] at this
  omega
theorem lab_go {kd : KD} {m O : D} {low lab : Str} {ls : List Str} {s3 s7 s8 s9 s10 : Sl} (f1 : low.length = 26) (f2 : low.cps.toList.Nodup) (hl : lab.length ≤ 6) (hls : ls.length ≤ 20)
    (fin : ∀ (w : Str) s7 s8 s10, w.length ≤ 6 → kd.nx [.d .drw, .d m, .d O, s3, .d (.str low), .o ((ls ++ [w]).map D.str), .d (.str lab), s7, s8, s9, s10]) :
    t__law_labels_b2_2 kd [.d .drw, .d m, .d O, s3, .d (.str low), .o (ls.map D.str), .d (.str lab), s7, s8, s9, s10] := by
  simp [t__law_labels_b2_2]
  refine lc_mapA (fun c => D.str ⟨#[c]⟩) (fun c => .str (other lab c)) (fun c hc K q => ?_) (by rw [← slen]; omega) ?_
  · simp [stepLc]
    exact ⟨by omega, by omega, q⟩
  · have eo : low.cps.toList.map (fun c => D.str (other lab c)) = (low.cps.toList.map (other lab)).map D.str := by simp
    rw [eo]
    obtain ⟨w, hw, hn⟩ := other_new (lab := lab) f1 f2 hls
    have ho : ∀ w ∈ low.cps.toList.map (other lab), w.length ≤ 6 := fun w hw => by
      obtain ⟨c, _, rfl⟩ := List.mem_map.mp hw
      exact other_len lab c
    have hc : (low.cps.toList.map (other lab)).length ≤ 26 := by rw [List.length_map, ← slen]; omega
    simp only [frz_d, List.set]
    generalize low.cps.toList.map (other lab) = W at hw ho hc
    simp [t__law_labels_b2_3]
    refine ⟨by omega, ?_⟩
    have e0 : D.str lab :: List.map D.str W = (lab :: W).map D.str := rfl
    rw [e0]
    refine lc_mapF D.str (fun w => !decide (w ∈ ls)) D.str (fun w _ K q => ?_) (by simp; omega) ?_
    · simp [stepLc]
      by_cases z : w ∈ ls
      · simpa [z] using q
      · simpa [z] using q
    · have hm : w ∈ (lab :: W).filter fun w => !decide (w ∈ ls) := by
        rw [List.mem_filter]
        exact ⟨List.mem_cons_of_mem _ hw, by simpa using hn⟩
      have hF : ∀ v ∈ (lab :: W).filter fun w => !decide (w ∈ ls), v.length ≤ 6 := fun v hv => by
        rcases List.mem_cons.mp (List.mem_filter.mp hv).1 with e | h
        · rw [e]; exact hl
        · exact ho v h
      generalize (lab :: W).filter (fun w => !decide (w ∈ ls)) = Z at hm hF
      cases Z with
      | nil => cases hm
      | cons a Z =>
        simp
        refine ⟨by omega, ?_⟩
        have eF : List.map D.str ls ++ [D.str a] = (ls ++ [a]).map D.str := by simp
        rw [eF]
        exact fin a _ _ _ (hF a List.mem_cons_self)
theorem lab_b1 {kd : KD} {m O : D} {low lab : Str} {xs : List D} {s3 s7 s8 s9 s10 : Sl} (f1 : low.length = 26)
    (fin : ∀ lab s9, lab.length ≤ 6 → kd.nx [.d .drw, .d m, .d O, s3, .d (.str low), .o xs, .d (.str lab), s7, s8, s9, s10]) :
    t__law_labels_b1 kd [.d .drw, .d m, .d O, s3, .d (.str low), .o xs, .d (.str lab), s7, s8, s9, s10] := by
  unfold t__law_labels_b1
  simp only [dSet, dJoin, dC, dLc, dRng, dCons, dCall, dVar, dLst, dNil, frzs, frz_d]
  refine ⟨_, rfl, by simp, by simp, by simp, fun d hd => ?_⟩
  obtain ⟨j, rfl, j0, j6⟩ : ∃ j : Int, d = .int j ∧ 0 ≤ j ∧ j ≤ 6 := by
    simp only [List.mem_cons, List.not_mem_nil, or_false] at hd
    rcases hd with rfl | rfl | rfl | rfl
    · exact ⟨1, rfl, by omega, by omega⟩
    · exact ⟨1, rfl, by omega, by omega⟩
    · exact ⟨2, rfl, by omega, by omega⟩
    · exact ⟨6, rfl, by omega, by omega⟩
  refine ⟨j, rfl, by omega, by omega, ?_⟩
  refine lc_good (fun y => ∃ s : Str, y = .str s ∧ s.length = 1) (fun d hd K hK => ?_) (by simp; omega) fun ys hy hl => ?_
  · simp [stepLc, f1]
    intro c _
    exact hK _ fun y e => by cases e; exact ⟨_, rfl, rfl⟩
  · obtain ⟨ss, rfl, hs⟩ := ex_map hy
    have ll : ss.length ≤ 6 := by simp at hl; omega
    have h1 := sum_le (m := 1) (l := ss.map (·.length)) fun x hx => by
      obtain ⟨y, hy, rfl⟩ := List.mem_map.mp hx
      exact Nat.le_of_eq (hs y hy)
    rw [List.length_map] at h1
    have h2 := join_len (y := (Str.ofString "")) (parts := ss)
    have h3 : (Str.ofString "").length = 0 := by decide +kernel
    rw [h3] at h2
    exact ⟨ss, rfl, by rw [h3]; omega, fin _ _ (by omega)⟩
theorem vc__law_labels : ∀ ds k x, T__law_labels ds k x → t__law_labels (kd0 k x) (st0 n__law_labels.length ds) := by
  intro ds k x h
  unfold T__law_labels at h
  split at h
  · rename_i many
    obtain ⟨h1, h2, q⟩ := h
    simp [t__law_labels, st0, t__law_labels_1, t__law_labels_2]
    refine ⟨by omega, by omega, ?_⟩
    generalize hO : [D.str (Str.ofString "a"), D.str (Str.ofString "b"), D.str (Str.ofString "own"), D.str (Str.ofString "reads"), D.str (Str.ofString "class"), D.str (Str.ofString "first"), D.str (Str.ofString "one"), D.str (Str.ofString "set"), D.str (Str.ofString "make"), D.str (Str.ofString "ready"), D.str (Str.ofString "root"), D.str (Str.ofString "zzzzzz")] = own
    have ho : ∃ os : List Str, own = os.map D.str ∧ os.length = 12 ∧ ∀ o ∈ os, o.length ≤ 6 := ⟨["a", "b", "own", "reads", "class", "first", "one", "set", "make", "ready", "root", "zzzzzz"], by rw [← hO]; rfl, rfl, by
      intro o h
      have hd : ((["a", "b", "own", "reads", "class", "first", "one", "set", "make", "ready", "root", "zzzzzz"] : List Str).all fun o => decide (o.length ≤ 6)) = true := by decide +kernel
      exact of_decide_eq_true (List.all_eq_true.mp hd o h)⟩
    clear hO
    obtain ⟨os, rfl, lo, ho⟩ := ho
    have f1 : (Str.ofString "abcdefghijklmnopqrstuvwxyz").length = 26 := by decide +kernel
    have f2 : (Str.ofString "abcdefghijklmnopqrstuvwxyz").cps.toList.Nodup := by decide +kernel
    generalize (Str.ofString "abcdefghijklmnopqrstuvwxyz") = low at f1 f2 ⊢
    refine for_inv (fun ds ρ => ∃ (i : Nat) (ls : List Str) (s3 s6 s7 s8 s9 s10 : Sl), ds.length + i = many.toNat ∧ ls.length = i ∧ (∀ l ∈ ls, l.length ≤ 6) ∧
      ρ = [.d .drw, .d (.int many), .d (.lst (os.map D.str)), s3, .d (.str low), .o (ls.map D.str), s6, s7, s8, s9, s10]) ?_ ?_ ⟨0, [], .u, .u, .u, .u, .u, .u, by simp, rfl, (fun _ z => by cases z), rfl⟩
    · rintro d ds ρ ⟨i, ls, s3, s6, s7, s8, s9, s10, e1, e2, e3, rfl⟩ kd' hr hx hn hc hb
      simp only [List.length_cons] at e1
      have go : ∀ (lab : Str) (s9 : Sl), lab.length ≤ 6 → t__law_labels_b2_2 kd' [.d .drw, .d (.int many), .d (.lst (os.map D.str)), .d d, .d (.str low), .o (ls.map D.str), .d (.str lab), s7, s8, s9, s10] := fun lab s9 hl =>
        lab_go f1 f2 hl (by omega) fun w t7 t8 t10 hw => hn _ ⟨i + 1, ls ++ [w], _, _, _, _, _, _, by omega, by simp [e2], fun l h => (List.mem_append.mp h).elim (e3 l) fun h => by rw [List.mem_singleton.mp h]; exact hw, rfl⟩
      simp [t__law_labels_b2]
      refine ⟨by omega, by omega, fun lab hlab => ?_⟩
      simp [t__law_labels_b2_1]
      intro r r0 r1
      split
      · exact lab_b1 f1 fun lab s9 hl => go lab s9 hl
      · exact go lab s9 (ho lab hlab)
    · rintro ρ ⟨i, ls, s3, s6, s7, s8, s9, s10, e1, e2, e3, rfl⟩
      simp at e1
      simp [t__law_labels_3]
      exact q ls (by omega) e3
  · exact h.elim
end DL
namespace DL
open PySem PySem.Spec PyProof.Rows L2
theorem vc_Schema___init__ {c : Ca} : ∀ ds k x p, T_Schema c ds k x → t_Schema___init__ c { nx := finI n_Schema___init__.length p c.Schema k, rt := fun ρ d => d = .non ∧ finI n_Schema___init__.length p c.Schema k ρ, bk := fun _ => False, ct := fun _ => False, x := x } (st0 n_Schema___init__.length (.raw (.ref p) :: ds) ++ [.c p (.ins c.Schema [])]) := by
  rintro ds k x p ⟨cs, rfl, hl, hm, q⟩
  simp [t_Schema___init__, st0]
  refine ⟨cs, rfl, hl, hm, ?_⟩
  by_cases c0 : namedOk cs = true
  · rw [if_pos c0]
    simp [t_Schema___init___1]
    refine lc_mapA Cls.d (fun c => .str c.n) (fun c _ K q => by simpa [stepLc, Cls.d] using q) hl ?_
    have eN : cs.map (fun c => D.str c.n) = (cs.map (·.n)).map D.str := by simp
    rw [eN]
    simp only [frz_d, List.set]
    simp [t_Schema___init___2]
    refine for_inv (fun ds ρ => ∃ pre post s, cs = pre ++ post ∧ ds = post.map Cls.d ∧ (pre.all fun c => clsOk (cs.map (·.n)) c) = true ∧ ρ = [Sl.d (D.raw (V.ref p)), Sl.d (D.lst (List.map Cls.d cs)), Sl.d (D.lst (List.map D.str (cs.map (·.n)))), s, Sl.c p (Ob.ins c.Schema [])]) ?_ ?_ ⟨[], cs, .u, rfl, rfl, rfl, by simp⟩
    · rintro d ds ρ ⟨pre, post, s, e1, e2, e3, rfl⟩ kd' hr hx hn hc hb
      cases post with
      | nil => cases e2
      | cons o post =>
        simp only [List.map_cons, List.cons.injEq] at e2
        obtain ⟨rfl, rfl⟩ := e2
        have hc2 : o ∈ cs := by rw [e1]; simp
        simp [t_Schema___init___b1]
        refine ⟨cs.map (·.n), o, ⟨by simp, rfl⟩, by simpa using hl, hm o hc2, ?_⟩
        by_cases c1 : clsOk (cs.map (·.n)) o = true
        · rw [if_pos c1]
          refine hn _ ⟨pre ++ [o], post, .d o.d, by rw [e1]; simp, rfl, by rw [List.all_append, e3]; simp [c1], by simp⟩
        · rw [if_neg c1]
          simp [Cls.d]
          rw [hx]
          have ed : dueC cs = some (some o.n) := by
            unfold dueC
            rw [if_pos c0]
            have ef : (cs.find? fun c => !clsOk (cs.map (·.n)) c) = some o := by
              have e3' : ∀ x ∈ pre, ¬ (!clsOk (cs.map (·.n)) x) = true := fun x hx => by
                have := List.all_eq_true.mp e3 x hx
                simpa using this
              generalize cs.map (·.n) = L at c1 e3'
              rw [e1, List.find?_append, List.find?_eq_none.mpr e3']
              simp [List.find?, c1]
            rw [ef]
            rfl
          rw [ed] at q
          exact q
    · rintro ρ ⟨pre, post, s, e1, e2, e3, rfl⟩
      have e4 : post = [] := by simpa using e2.symm
      rw [e4, List.append_nil] at e1
      obtain rfl : pre = cs := e1.symm
      have ed : dueC pre = none := by
        unfold dueC
        rw [if_pos c0]
        have ef : (pre.find? fun c => !clsOk (pre.map (·.n)) c) = none := List.find?_eq_none.mpr fun x hx => by
          have := List.all_eq_true.mp e3 x hx
          simpa using this
        rw [ef]
        rfl
      rw [ed] at q
      simp [t_Schema___init___3]
      exact ⟨4, [], rfl, by decide, _, rfl, q⟩
  · rw [if_neg c0]
    have ed : dueC cs = some none := by
      unfold dueC
      rw [if_neg c0]
    rw [ed] at q
    exact q
end DL
namespace DL
open PySem PySem.Spec PyProof.Rows L2
def nestD (fp : List (Cls × Addr)) : List D := fp.map fun q => .tup [.str q.1.n, .raw (.ref q.2), hD q.1.h]
def nestC (fp : List (Cls × Addr)) : List Sl := fp.map fun q => .c q.2 (.lst (q.1.sl.map Slt.d))
theorem nest_pyR {ρ : List Sl} : ∀ {fp : List (Cls × Addr)}, (∀ q ∈ fp, ∃ i : Nat, ρ[i]? = some (Sl.c q.2 (.lst (q.1.sl.map Slt.d)))) → ∃ es, PyRL ρ (nestD fp) es
  | [], _ => ⟨[], .nil⟩
  | q :: fp, h => by
    obtain ⟨es, t⟩ := nest_pyR (ρ := ρ) (fp := fp) fun x hx => h x (List.mem_cons_of_mem _ hx)
    obtain ⟨i, hi⟩ := h q List.mem_cons_self
    have sl : ∃ ys, PyRL ρ (q.1.sl.map Slt.d) ys := by
      clear hi h t
      induction q.1.sl with
      | nil => exact ⟨[], .nil⟩
      | cons s l ih =>
        obtain ⟨ys, t⟩ := ih
        exact ⟨_, .cons (.pure (by simp [Slt.d, sD])) t⟩
    obtain ⟨ys, hy⟩ := sl
    exact ⟨_, .cons (.tup (.cons (.pure rfl) (.cons (.cell hi hy) (.cons (.pure (hD_pure _)) .nil)))) t⟩
theorem at_app {α : Type} (a b c : List α) (x : α) : (a ++ (b ++ x :: c))[a.length + b.length]? = some x := by
  rw [List.getElem?_append_right (by omega)]
  simp
theorem set_app {α : Type} (a b c : List α) (x y : α) : (a ++ (b ++ x :: c)).set (a.length + b.length) y = a ++ (b ++ y :: c) := by
  rw [List.set_append_right _ _ (by omega)]
  simp
theorem nest_at {a : List Sl} {fp : List (Cls × Addr)} : ∀ q ∈ fp, ∃ i : Nat, (a ++ nestC fp)[i]? = some (Sl.c q.2 (.lst (q.1.sl.map Slt.d))) := fun q hq => by
  obtain ⟨l, r, e⟩ := List.append_of_mem hq
  refine ⟨a.length + (nestC l).length, ?_⟩
  rw [e]
  unfold nestC
  rw [List.map_append, List.map_cons]
  exact at_app a _ _ _
def rsl (tx L isE : D) (fp : List (Cls × Addr)) (s2 s3 s6 s7 : Sl) : List Sl := .d tx :: .o (nestD fp) :: s2 :: s3 :: .d L :: .d isE :: s6 :: s7 :: .u :: .u :: .u :: nestC fp
theorem rsl_eq {tx L isE : D} {fp : List (Cls × Addr)} {s2 s3 s6 s7 : Sl} : rsl tx L isE fp s2 s3 s6 s7 = [.d tx, .o (nestD fp), s2, s3, .d L, .d isE, s6, s7, .u, .u, .u] ++ nestC fp := rfl
theorem nest_loop {c : Ca} {x : Kx} {tx : D} {L : D} {isE : D} {kd : KD} {tok : Tok kd} {ls : List Str} (hx : kd.x = x) (hll : ∀ l ∈ ls, l.length + 2 ≤ cap) (hn : ls.length + 1 ≤ cap)
    (hbad : ∀ i, rdL 0 ls [] = .inl i → x c.BadText (some ("row", .int (i : Nat)))) (hgood : ∀ fp s2 s3 s6 s7, rdL 0 ls [] = .inr (fp.map (·.1)) → Good ls.length (fp.map (·.1)) → kd.nx (rsl tx L isE fp s2 s3 s6 s7)) :
    ForR (gT 2 (gsC (gN 2) (gsC (gN 3) gsN))) (t_read_schema_b2 c) kd tok (enumD 0 (ls.map D.str)) [.d tx, .o [], .u, .u, .d L, .d isE, .u, .u, .u, .u, .u] := by
  refine for_inv (fun ds ρ => ∃ i rest fp s2 s3 s6 s7, ds = enumD i (rest.map D.str) ∧ (∀ l ∈ rest, l.length + 2 ≤ cap) ∧ i + rest.length = ls.length ∧ rdL i rest (fp.map (·.1)) = rdL 0 ls [] ∧ Good i (fp.map (·.1)) ∧ ρ = rsl tx L isE fp s2 s3 s6 s7) ?_ ?_
    ⟨0, ls, [], .u, .u, .u, .u, rfl, hll, by simp, rfl, ⟨Nat.le_refl _, fun _ z => nomatch z⟩, rfl⟩
  · rintro d ds ρ ⟨i, rest, fp, s2, s3, s6, s7, e1, h1, h2, e3, g, rfl⟩ kd' hr hx' hn' hc hb
    cases rest with
    | nil => cases e1
    | cons l rest =>
      rw [List.map_cons, enumD_cons, List.cons.injEq] at e1
      obtain ⟨rfl, rfl⟩ := e1
      have hl := h1 l (by simp)
      simp [t_read_schema_b2, rsl]
      refine ⟨hl, ?_⟩
      have eH := headD_O l
      have eS := holeD_O l
      simp only [rdL] at e3
      have cp := hn
      simp only [cap] at cp
      simp only [List.length_cons] at h2
      cases eh : lineH l with
      | some p =>
        obtain ⟨n, h⟩ := p
        rw [eh] at e3 eH
        simp [t_read_schema_b2_1, eH, t_read_schema_b2_2, t_read_schema_b1]
        intro p
        have eF : nestD fp ++ [D.tup [D.str n, D.raw (V.ref p), hD h]] = nestD (fp ++ [(⟨n, [], h⟩, p)]) := by simp [nestD]
        have eC : nestC fp ++ [Sl.c p (Ob.lst [])] = nestC (fp ++ [(⟨n, [], h⟩, p)]) := by simp [nestC]
        rw [eF, eC]
        have gl := g.len
        refine ⟨by simp [nestD] at gl ⊢; omega, hn' _ ⟨i + 1, rest, fp ++ [(⟨n, [], h⟩, p)], _, _, _, _, rfl, fun l hl => h1 l (by simp [hl]), by omega, by simpa using e3, by simpa using Good.head g hl eh, rfl⟩⟩
      | none =>
        rw [eh] at e3 eH
        simp [t_read_schema_b2_1, eH]
        cases es : lineS l with
        | some sl =>
          rw [es] at eS e3
          simp only at e3
          by_cases c0 : fp = []
          · subst c0
            simp [nestD, nestC, eS, Slt.d] at e3 ⊢
            exact ⟨⟨[], .nil⟩, by rw [hx', hx]; exact hbad i e3.symm⟩
          · obtain ⟨pre, q, rfl⟩ : ∃ pre q, fp = pre ++ [q] := ⟨fp.dropLast, fp.getLast c0, (List.dropLast_concat_getLast _).symm⟩
            obtain ⟨es2, hes⟩ := nest_pyR (nest_at (a := [.d tx, .o (nestD (pre ++ [q])), .d (.int i), .d (.str l), .d L, .d isE, .d .non, .d (.tup [.str sl.n, .str sl.w, .str sl.f, sD sl.g]), .u, .u, .u]) (fp := pre ++ [q]))
            simp [eS, Slt.d]
            refine ⟨⟨es2, hes⟩, ?_⟩
            rw [if_neg (by simp [nestD])]
            have eN : nestD (pre ++ [q]) = nestD pre ++ [.tup [.str q.1.n, .raw (.ref q.2), hD q.1.h]] := by simp [nestD]
            have eC : nestC (pre ++ [q]) = nestC pre ++ [.c q.2 (.lst (q.1.sl.map Slt.d))] := by simp [nestC]
            simp [t_read_schema_b2_2, eN]
            rw [eC]
            let a : List Sl := [.d tx, .o (nestD pre ++ [.tup [.str q.1.n, .raw (.ref q.2), hD q.1.h]]), .d (.int i), .d (.str l), .d L, .d isE, .d .non, .d (.tup [.str sl.n, .str sl.w, .str sl.f, sD sl.g]), .u, .u, .u]
            have ha := at_app a (nestC pre) [] (.c q.2 (.lst (q.1.sl.map Slt.d)))
            have gq := (g.it q.1 (by simp)).2.1
            refine ⟨⟨_, _, ha⟩, _, _, ha, by rw [List.length_map]; omega, ?_⟩
            refine Eq.mpr (congrArg kd'.nx (set_app a (nestC pre) [] (.c q.2 (.lst (q.1.sl.map Slt.d))) (Sl.c q.2 (Ob.lst (q.1.sl.map Slt.d ++ ([D.tup [D.str sl.n, D.str sl.w, D.str sl.f, sD sl.g]] : List D)))))) ?_
            have eA : addLast (((pre ++ [q]).map (·.1))) sl = pre.map (·.1) ++ [⟨q.1.n, q.1.sl ++ [sl], q.1.h⟩] := addLast_map (by simp)
            rw [if_neg (by simp), eA] at e3
            refine hn' _ ⟨i + 1, rest, pre ++ [(⟨q.1.n, q.1.sl ++ [sl], q.1.h⟩, q.2)], .d (.int i), .d (.str l), .d .non, .d (.tup [.str sl.n, .str sl.w, .str sl.f, sD sl.g]), rfl, fun l hl => h1 l (by simp [hl]), by omega, by simpa using e3, ?_, ?_⟩
            · have := Good.slot (pre := pre.map (·.1)) (f := q.1) (by simpa using g) hl es
              simpa using this
            · simp [rsl, a, nestD, nestC, Slt.d]
        | none =>
          rw [es] at eS e3
          simp [eS]
          rw [hx', hx]
          exact hbad i e3.symm
  · rintro ρ ⟨i, rest, fp, s2, s3, s6, s7, e1, h1, h2, e3, g, rfl⟩
    cases rest with
    | cons l rest => cases e1
    | nil =>
      refine hgood fp _ _ _ _ (by rw [← e3]; rfl) ?_
      have e : i = ls.length := by simpa using h2
      rw [← e]
      exact g
theorem vc_read_schema {c : Ca} : ∀ ds k x, T_read_schema c ds k x → t_read_schema c (kd0 k x) (st0 n_read_schema.length ds) := by
  rintro ds k x ⟨d, rfl, hk, q⟩
  cases d with
  | str t =>
    obtain ⟨h1, q⟩ := q
    simp [t_read_schema, st0]
    by_cases c0 : t = ⟨#[]⟩
    · rw [if_pos c0]
      have e : readR t = .text 0 := by
        unfold readR
        rw [if_pos (by simp [c0])]
      rw [e] at q
      exact q
    · rw [if_neg c0]
      have e : readR t = readW (spS 10 t) := by
        unfold readR
        rw [if_neg (by simpa using c0)]
      rw [e] at q
      simp [t_read_schema_1]
      refine ⟨h1, ?_⟩
      obtain ⟨hlen, hln⟩ := lens (c := 10) h1
      obtain ⟨ini, last, eL⟩ := spS_snoc 10 t
      rw [eL] at q hlen hln
      refine ⟨ini, last, eL, ?_⟩
      have cp := h1
      simp only [cap] at cp
      have hll : ∀ l ∈ ini ++ [last], l.length + 2 ≤ cap := fun l hl => by
        have := spS_mem (c := 10) (s := t) (w := l) (by rw [eL]; exact hl)
        simp only [cap]
        omega
      have hnn : (ini ++ [last]).length + 1 ≤ cap := by
        have := spS_len 10 t
        rw [eL] at this
        simp only [cap]
        omega
      by_cases c1 : last = ⟨#[]⟩
      · rw [if_pos (by simp [c1])]
        subst c1
        simp [t_read_schema_2]
        refine nest_loop (x := x) rfl (fun l hl => hll l (by simp [hl])) (by simp at hnn ⊢; omega) (fun i e => ?_) fun fp s2 s3 s6 s7 e g => ?_
        · rw [readW_e1 e] at q
          exact q
        · simp [t_read_schema_3, rsl]
          simp [t_read_schema_4]
          refine lc_mapA (fun q : Cls × Addr => D.tup [.str q.1.n, .raw (.ref q.2), hD q.1.h]) (fun q => q.1.d) (fun q hq K z => ?_) (by have := g.len; simp at this hnn; simp only [cap] at hnn; omega) ?_
          · simp [stepLc]
            obtain ⟨i, hi⟩ := nest_at (a := [.d (.str t), .d (.lst (nestD fp)), s2, s3, .d (.lst (ini.map D.str)), .d (.bl true), s6, s7, .d (.str q.1.n), .d (.raw (.ref q.2)), .d (hD q.1.h)]) q hq
            exact ⟨i, _, hi, by simpa [Cls.d] using z⟩
          · simp
            obtain ⟨g1, g2⟩ := g.sm (by simp at hnn; simp only [cap] at hnn ⊢; omega)
            refine ⟨fp.map (·.1), by simp, g1, fun c hc => (g2 c hc).1, ?_⟩
            rw [readW_e2 e] at q
            cases ed : dueC (fp.map (·.1)) with
            | none =>
              rw [ed] at q
              exact q
            | some n =>
              rw [ed] at q
              exact q
      · rw [if_neg (by intro z; exact c1 (by cases last; simp_all))]
        simp [t_read_schema_2]
        have e9 : List.map D.str ini ++ [D.str last] = (ini ++ [last]).map D.str := by simp
        rw [e9]
        refine nest_loop (x := x) rfl hll hnn (fun i e => ?_) fun fp s2 s3 s6 s7 e g => ?_
        · rw [readW_n1 c1 e] at q
          exact q
        · rw [readW_n2 c1 e] at q
          simp [t_read_schema_3, rsl]
          simpa using q
  | _ => first | (simp [kn, D.ty] at hk; done) | simpa [t_read_schema, st0] using q
end DL
namespace DL
open PySem PySem.Spec PyProof.Rows L2
theorem splitC_app {c : Nat} : ∀ {a b : List Nat}, c ∉ a → splitC c (a ++ c :: b) = a :: splitC c b
  | [], b, _ => by simp [splitC]
  | x :: a, b, h => by
    have hx : x ≠ c := fun z => h (by simp [z])
    have ha : c ∉ a := fun z => h (List.mem_cons_of_mem _ z)
    rw [List.cons_append, splitC, if_neg hx, splitC_app ha]
theorem splitC_one {c : Nat} : ∀ {a : List Nat}, c ∉ a → splitC c a = [a]
  | [], _ => rfl
  | x :: a, h => by
    have hx : x ≠ c := fun z => h (by simp [z])
    have ha : c ∉ a := fun z => h (List.mem_cons_of_mem _ z)
    rw [splitC, if_neg hx, splitC_one ha]
theorem app_codes (a b : Str) : (a ++ b).cps.toList = a.cps.toList ++ b.cps.toList := by
  show (a.cps ++ b.cps).toList = _
  simp
theorem mkS_codes (s : Str) : mkS s.cps.toList = s := by
  cases s
  simp [mkS]
theorem mkS_inj {a b : List Nat} (h : mkS a = mkS b) : a = b := by
  have := congrArg (fun s : Str => s.cps.toList) h
  simpa [mkS] using this
structure BadW (w : Str) : Prop where
  nm : nameS w = false
  nh : w.cps.toList ≠ [35]
  sp : 32 ∉ w.cps.toList
  nl : 10 ∉ w.cps.toList
  len : w.length ≤ 5000
theorem mul_codes {x : Str} {n : Nat} (h : 2 ≤ n) (hx : x.length ≠ 0) : (Txt.mul x (n : Int)).cps.toList = (List.replicate n x.cps.toList).flatten := by
  unfold Txt.mul
  rw [if_neg (by omega), if_neg (by simp [hx]; omega)]
  have key : ∀ (m : Nat) (acc : Array Nat), ((List.replicate m x.cps).foldl (· ++ ·) acc).toList = acc.toList ++ (List.replicate m x.cps.toList).flatten := by
    intro m
    induction m with
    | zero => intro acc; simp
    | succ m ih =>
      intro acc
      rw [List.replicate_succ, List.foldl_cons, ih, List.replicate_succ, List.flatten_cons]
      simp
  have := key n #[]
  simpa using this
theorem mul_one {c n : Nat} (h : 2 ≤ n) : (Txt.mul ⟨#[c]⟩ (n : Int)).cps.toList = List.replicate n c := by
  rw [mul_codes h (by simp [Str.length])]
  show (List.replicate n [c]).flatten = _
  clear h
  induction n with
  | zero => rfl
  | succ n ih => rw [List.replicate_succ, List.flatten_cons, ih]; rfl
theorem mul_bad {c n : Nat} (h : 7 ≤ n) (h2 : n ≤ 5000) (h3 : c ≠ 32) (h4 : c ≠ 10) : BadW (Txt.mul ⟨#[c]⟩ (n : Int)) := by
  have e := mul_one (c := c) (n := n) (by omega)
  have hl : (Txt.mul ⟨#[c]⟩ (n : Int)).length = n := by rw [slen, e]; simp
  refine ⟨?_, ?_, ?_, ?_, by rw [hl]; exact h2⟩
  · unfold nameS
    rw [hl, decide_eq_false (show ¬ n ≤ 6 by omega)]
    simp
  · rw [e]
    intro z
    have := congrArg List.length z
    simp at this
    omega
  · rw [e]
    intro z
    exact h3 (List.eq_of_mem_replicate z).symm
  · rw [e]
    intro z
    exact h4 (List.eq_of_mem_replicate z).symm
theorem mul_ok {c n : Nat} (h2 : n ≤ 5000) : MulOk ⟨#[c]⟩ (n : Int) := by
  refine ⟨?_, fun _ _ => ?_, fun _ _ => ?_⟩
  · rw [Bool.or_eq_false_iff]
    exact ⟨decide_eq_false (by omega), decide_eq_false (by omega)⟩
  · show ¬ (((1 : Nat) : Int) > (2 ^ 63 - 1) / (n : Int))
    intro z
    have h1 : (2 ^ 63 - 1) / (n : Int) < 1 := by omega
    by_cases hn : n = 0
    · omega
    · have := Int.lt_mul_ediv_self_add (x := 2 ^ 63 - 1) (k := (n : Int)) (by omega)
      have h0 : (2 ^ 63 - 1) / (n : Int) ≤ 0 := by omega
      have : (n : Int) * ((2 ^ 63 - 1) / (n : Int)) ≤ 0 := Int.mul_nonpos_of_nonneg_of_nonpos (by omega) h0
      omega
  · have e : ((⟨#[c]⟩ : Str).length * (n : Int).toNat) = n := by simp [Str.length]
    rw [e]
    unfold PySem.Builtin.Str.tooLong
    rw [sizeLine_eq]
    exact decide_eq_false (by omega)
theorem mul_sok {c n : Nat} (h : 2 ≤ n) (hc : c < 0x110000) : SOk (Txt.mul ⟨#[c]⟩ (n : Int)) := fun x hx => by
  rw [mul_one h] at hx
  rw [List.eq_of_mem_replicate hx]
  exact hc
def badLine (i : Nat) (w : Str) : Str := match i with
  | 0 => "class " ++ w ++ " own"
  | 1 => "  " ++ w ++ " first one #"
  | _ => "  b first one # " ++ w
theorem bad_H {w : Str} (b : BadW w) (i : Nat) : lineH (badLine i w) = none := by
  unfold lineH spS badLine
  match i with
  | 0 =>
    have e : ("class " ++ w ++ " own" : Str).cps.toList = [99, 108, 97, 115, 115] ++ 32 :: (w.cps.toList ++ 32 :: [111, 119, 110]) := by
      rw [app_codes, app_codes]
      show ([99, 108, 97, 115, 115, 32] ++ w.cps.toList) ++ [32, 111, 119, 110] = _
      simp
    show headO ((splitC 32 ("class " ++ w ++ " own" : Str).cps.toList).map mkS) = none
    rw [e, splitC_app (by decide), splitC_app b.sp, splitC_one (by decide)]
    simp [headO, mkS_codes, b.nm]
  | 1 =>
    have e : ("  " ++ w ++ " first one #" : Str).cps.toList = [] ++ 32 :: ([] ++ 32 :: (w.cps.toList ++ 32 :: ([102, 105, 114, 115, 116] ++ 32 :: ([111, 110, 101] ++ 32 :: [35])))) := by
      rw [app_codes, app_codes]
      show ([32, 32] ++ w.cps.toList) ++ [32, 102, 105, 114, 115, 116, 32, 111, 110, 101, 32, 35] = _
      simp
    show headO ((splitC 32 ("  " ++ w ++ " first one #" : Str).cps.toList).map mkS) = none
    rw [e, splitC_app (by decide), splitC_app (by decide), splitC_app b.sp]
    simp only [List.map_cons, headO]
    rw [if_neg (by intro z; exact absurd z.1 (by decide +kernel))]
  | (i + 2) =>
    have e : ("  b first one # " ++ w : Str).cps.toList = [] ++ 32 :: ([] ++ 32 :: ([98] ++ 32 :: ([102, 105, 114, 115, 116] ++ 32 :: ([111, 110, 101] ++ 32 :: ([35] ++ 32 :: w.cps.toList))))) := by
      rw [app_codes]
      show [32, 32, 98, 32, 102, 105, 114, 115, 116, 32, 111, 110, 101, 32, 35, 32] ++ w.cps.toList = _
      simp
    show headO ((splitC 32 ("  b first one # " ++ w : Str).cps.toList).map mkS) = none
    rw [e, splitC_app (by decide), splitC_app (by decide), splitC_app (by decide)]
    simp only [List.map_cons, headO]
    rw [if_neg (by intro z; exact absurd z.1 (by decide +kernel))]
theorem bad_S {w : Str} (b : BadW w) (i : Nat) : lineS (badLine i w) = none := by
  unfold lineS spS badLine
  match i with
  | 0 =>
    have e : ("class " ++ w ++ " own" : Str).cps.toList = 99 :: 108 :: ([97, 115, 115, 32] ++ w.cps.toList ++ [32, 111, 119, 110]) := by
      rw [app_codes, app_codes]
      show ([99, 108, 97, 115, 115, 32] ++ w.cps.toList) ++ [32, 111, 119, 110] = _
      simp
    show holeO (decide (("class " ++ w ++ " own" : Str).cps.toList.take 2 = [32, 32])) _ = none
    rw [e]
    have : decide (List.take 2 (99 :: 108 :: ([97, 115, 115, 32] ++ w.cps.toList ++ [32, 111, 119, 110])) = [32, 32]) = false := by simp
    rw [this]
    unfold holeO
    split
    · rw [if_neg (by simp)]
    · rfl
  | 1 =>
    have e : ("  " ++ w ++ " first one #" : Str).cps.toList = [32, 32] ++ (w.cps.toList ++ 32 :: ([102, 105, 114, 115, 116] ++ 32 :: ([111, 110, 101] ++ 32 :: [35]))) := by
      rw [app_codes, app_codes]
      show ([32, 32] ++ w.cps.toList) ++ [32, 102, 105, 114, 115, 116, 32, 111, 110, 101, 32, 35] = _
      simp
    show holeO _ ((splitC 32 (mkS (("  " ++ w ++ " first one #" : Str).cps.toList.drop 2)).cps.toList).map mkS) = none
    rw [e]
    show holeO _ ((splitC 32 (w.cps.toList ++ 32 :: ([102, 105, 114, 115, 116] ++ 32 :: ([111, 110, 101] ++ 32 :: [35])))).map mkS) = none
    rw [splitC_app b.sp, splitC_app (by decide), splitC_app (by decide), splitC_one (by decide)]
    simp only [List.map_cons, List.map_nil, holeO]
    rw [if_neg (by rw [mkS_codes, b.nm]; simp)]
  | (i + 2) =>
    have e : ("  b first one # " ++ w : Str).cps.toList = [32, 32] ++ ([98] ++ 32 :: ([102, 105, 114, 115, 116] ++ 32 :: ([111, 110, 101] ++ 32 :: ([35] ++ 32 :: w.cps.toList)))) := by
      rw [app_codes]
      show [32, 32, 98, 32, 102, 105, 114, 115, 116, 32, 111, 110, 101, 32, 35, 32] ++ w.cps.toList = _
      simp
    show holeO _ ((splitC 32 (mkS (("  b first one # " ++ w : Str).cps.toList.drop 2)).cps.toList).map mkS) = none
    rw [e]
    show holeO _ ((splitC 32 ([98] ++ 32 :: ([102, 105, 114, 115, 116] ++ 32 :: ([111, 110, 101] ++ 32 :: ([35] ++ 32 :: w.cps.toList))))).map mkS) = none
    rw [splitC_app (by decide), splitC_app (by decide), splitC_app (by decide), splitC_app (by decide), splitC_one b.sp]
    simp only [List.map_cons, List.map_nil, holeO]
    rw [if_neg]
    rintro ⟨_, _, _, _, z⟩
    rw [List.all_eq_true] at z
    have z2 := z (mkS w.cps.toList) (by simp)
    rw [mkS_codes, b.nm, Bool.or_false, beq_iff_eq] at z2
    exact b.nh (by rw [z2]; rfl)
theorem bad_text {w : Str} (b : BadW w) (i : Nat) : readR ("class a own\n" ++ badLine i w ++ "\n") = .text 1 := by
  have hc : ("class a own\n" ++ badLine i w ++ "\n" : Str).cps.toList = [99, 108, 97, 115, 115, 32, 97, 32, 111, 119, 110] ++ 10 :: ((badLine i w).cps.toList ++ 10 :: []) := by
    rw [app_codes, app_codes]
    show ([99, 108, 97, 115, 115, 32, 97, 32, 111, 119, 110, 10] ++ (badLine i w).cps.toList) ++ [10] = _
    simp
  have k1 : ∀ a : Str, 10 ∉ a.cps.toList → 10 ∉ (a ++ w).cps.toList := fun a ha z => by
    rw [app_codes] at z
    exact (List.mem_append.mp z).elim ha b.nl
  have k2 : ∀ a d : Str, 10 ∉ a.cps.toList → 10 ∉ d.cps.toList → 10 ∉ (a ++ d).cps.toList := fun a d ha hd z => by
    rw [app_codes] at z
    exact (List.mem_append.mp z).elim ha hd
  have hnl : 10 ∉ (badLine i w).cps.toList := by
    rcases i with _ | _ | i
    · exact k2 _ _ (k1 "class " (by decide +kernel)) (by decide +kernel)
    · exact k2 _ _ (k1 "  " (by decide +kernel)) (by decide +kernel)
    · exact k1 "  b first one # " (by decide +kernel)
  have hs : spS 10 ("class a own\n" ++ badLine i w ++ "\n") = [mkS [99, 108, 97, 115, 115, 32, 97, 32, 111, 119, 110], badLine i w, mkS []] := by
    unfold spS
    rw [hc, splitC_app (by decide), splitC_app hnl]
    simp [splitC, mkS_codes]
  unfold readR
  rw [if_neg]
  · rw [hs]
    unfold readW
    rw [if_pos (by show (some (mkS []) == some ("" : Str)) = true; decide +kernel)]
    have hd : List.dropLast [mkS [99, 108, 97, 115, 115, 32, 97, 32, 111, 119, 110], badLine i w, mkS []] = [mkS [99, 108, 97, 115, 115, 32, 97, 32, 111, 119, 110], badLine i w] := rfl
    have h1 : lineH (mkS [99, 108, 97, 115, 115, 32, 97, 32, 111, 119, 110]) = some (mkS [97], none) := by decide +kernel
    rw [hd]
    simp only [rdL, h1, bad_H b i, bad_S b i]
  · intro z
    have z2 := congrArg (fun s : Str => s.cps.toList.length) (beq_iff_eq.mp z)
    rw [hc] at z2
    simp at z2
theorem headO_name {W : List Str} {n : Str} {h : Option (List Str)} (e : headO W = some (n, h)) : nameS n = true := by
  match W, e with
  | a :: m :: g :: r, e =>
    simp only [headO] at e
    split at e
    · rename_i c
      split at e
      · split at e
        · cases e; exact c.2
        · cases e
      · split at e
        · cases e; exact c.2
        · cases e
    · cases e
theorem addLast_names {s : Slt} : ∀ {fs : List Cls}, (∀ c ∈ fs, nameS c.n = true) → ∀ c ∈ addLast fs s, nameS c.n = true
  | [], _, c, h => by cases h
  | [a], ha, c, h => by
    have e : c = ⟨a.n, a.sl ++ [s], a.h⟩ := List.mem_singleton.mp h
    rw [e]
    exact ha a (by simp)
  | a :: b :: r, ha, c, h => by
    rcases List.mem_cons.mp h with e | h
    · rw [e]; exact ha a (by simp)
    · exact addLast_names (fs := b :: r) (fun x hx => ha x (List.mem_cons_of_mem _ hx)) c h
theorem rdL_names : ∀ {ls : List Str} {i : Nat} {fs cs : List Cls}, (∀ c ∈ fs, nameS c.n = true) → rdL i ls fs = .inr cs → ∀ c ∈ cs, nameS c.n = true
  | [], i, fs, cs, h, e => by
    cases e
    exact h
  | l :: ls, i, fs, cs, h, e => by
    simp only [rdL] at e
    split at e
    · rename_i n g eh
      refine rdL_names (fun c hc => ?_) e
      rcases List.mem_append.mp hc with hc | hc
      · exact h c hc
      · rw [List.mem_singleton.mp hc]
        exact headO_name eh
    · split at e
      · split at e
        · cases e
        · exact rdL_names (addLast_names h) e
      · cases e
theorem rdL_row : ∀ {ls : List Str} {i j : Nat} {fs : List Cls}, rdL i ls fs = .inl j → j < i + ls.length
  | [], i, j, fs, e => by cases e
  | l :: ls, i, j, fs, e => by
    simp only [rdL] at e
    split at e
    · have := rdL_row e
      simp only [List.length_cons]
      omega
    · split at e
      · split at e
        · cases e
          simp
        · have := rdL_row e
          simp only [List.length_cons]
          omega
      · cases e
        simp
theorem dueC_name {cs : List Cls} {n : Str} (h : ∀ c ∈ cs, nameS c.n = true) (e : dueC cs = some (some n)) : nameS n = true := by
  unfold dueC at e
  split at e
  · cases q : cs.find? (fun c => !clsOk (cs.map (·.n)) c) with
    | none => rw [q] at e; cases e
    | some c =>
      rw [q] at e
      cases e
      exact h c (List.mem_of_find?_eq_some q)
  · cases e
theorem readR_row {t : Str} {i : Nat} (e : readR t = .text i) : i ≤ t.length + 1 := by
  unfold readR at e
  split at e
  · cases e; omega
  · have hl := spS_len 10 t
    unfold readW at e
    split at e
    · split at e
      · rename_i j q
        cases e
        have := rdL_row q
        rw [List.length_dropLast] at this
        omega
      · split at e <;> cases e
    · split at e
      · rename_i j q
        cases e
        have := rdL_row q
        omega
      · cases e
        exact hl
theorem readR_name {t : Str} {n : Str} (e : readR t = .schema (some n)) : nameS n = true := by
  unfold readR at e
  split at e
  · cases e
  · unfold readW at e
    split at e
    · split at e
      · cases e
      · rename_i cs q
        split at e
        · cases e
        · rename_i m d
          cases e
          exact dueC_name (rdL_names (by intro _ z; cases z) q) d
    · split at e
      · cases e
      · cases e
theorem tupleText2 (a b : Str) : (tupleText [a, b]).length ≤ a.length + b.length + 8 := by
  have e : tupleText [a, b] = ("(" : Str) ++ (a ++ ", " ++ b) ++ ")" := by
    first
      | rfl
      | (unfold tupleText; with_unfolding_all rfl)
  rw [e]
  simp only [str_app_len]
  have h1 : (("(" : Str)).length = 1 := by decide +kernel
  have h2 : ((", " : Str)).length = 2 := by decide +kernel
  have h3 : ((")" : Str)).length = 1 := by decide +kernel
  omega
theorem repr_text {i : Nat} (h : i ≤ 20000000) : reprOk (.tup [.str "text", .int (i : Nat)]) := by
  have hl : i.log2 < 1920 := by
    by_cases z : i = 0
    · rw [z]; decide +kernel
    · rw [Nat.log2_lt z]
      exact Nat.lt_of_le_of_lt h (by decide +kernel)
  refine ⟨rfl, ⟨_, rfl⟩, by simpa [D.py, D.pyL, PyData.showable, PyData.showableAll] using hl, rfl, by simp [D.py, D.pyL, PyData.depth, PyData.depthAll], ?_⟩
  show (tupleText [reprText "text", toString ((i : Nat) : Int)]).length ≤ _
  have h1 := tupleText2 (reprText "text") (toString ((i : Nat) : Int))
  have h2 : (reprText ("text" : Str)).length = 6 := by decide +kernel
  have h3 : ((toString ((i : Nat) : Int) : Str)).length ≤ 9 := by
    have := PyProof.Rows.toString_length_le (v := ((i : Nat) : Int)) (k := 8) (by omega) (by omega) (by omega)
    exact Nat.le_succ_of_le this
  omega
theorem repr_none : reprOk (.tup [.str "schema", .non]) := ⟨rfl, ⟨_, rfl⟩, by decide +kernel, rfl, by decide +kernel, by decide +kernel⟩
theorem repr_name {n : Str} (h : nameS n = true) : reprOk (.tup [.str "schema", .str n]) := by
  have hn : n.length ≤ 6 ∧ ∀ c ∈ n.cps.toList, c ∈ lowS.cps.toList := by
    unfold nameS at h
    simp only [Bool.and_eq_true, decide_eq_true_eq, List.all_eq_true] at h
    exact ⟨h.1.2, h.2⟩
  refine ⟨rfl, ⟨_, rfl⟩, ?_, rfl, by simp [D.py, D.pyL, PyData.depth, PyData.depthAll], ?_⟩
  · simp [D.py, D.pyL, PyData.showable, PyData.showableAll]
  · show (tupleText [reprText "schema", reprText n]).length ≤ _
    have h1 := tupleText2 (reprText "schema") (reprText n)
    have h2 : (reprText ("schema" : Str)).length = 8 := by decide +kernel
    have h3 := PySem.StrLaws.reprText_len n fun c hc => by
      have := hn.2 c hc
      have hb : ∀ c ∈ lowS.cps.toList, c < 16 ^ 8 := by decide +kernel
      exact hb c this
    omega
end DL
namespace DL
open PySem PySem.Spec PyProof.Rows L2
theorem rdL_good : ∀ {ls : List Str} {i : Nat} {fs cs : List Cls}, (∀ l ∈ ls, l.length + 2 ≤ cap) → Good i fs → rdL i ls fs = .inr cs → Good (i + ls.length) cs
  | [], i, fs, cs, _, g, e => by
    unfold rdL at e
    cases e
    exact g
  | l :: ls, i, fs, cs, hl, g, e => by
    have h1 := hl l (by simp)
    have h2 : ∀ l ∈ ls, l.length + 2 ≤ cap := fun x hx => hl x (by simp [hx])
    have en : i + (l :: ls).length = i + 1 + ls.length := by simp; omega
    rw [en]
    unfold rdL at e
    split at e
    · rename_i n h eh
      exact rdL_good h2 (Good.head g h1 eh) e
    · split at e
      · rename_i s es
        split at e
        · cases e
        · rename_i ne
          have hne : fs ≠ [] := fun z => ne (by rw [z]; rfl)
          have ef := (List.dropLast_concat_getLast hne).symm
          rw [addLast_map ef] at e
          rw [ef] at g
          exact rdL_good h2 (Good.slot g h1 es) e
      · cases e
theorem readR_good {t : Str} {cs : List Cls} (ht : t.length + 3 ≤ cap) (e : readR t = .value cs) : dueC cs = none ∧ cs.length ≤ cap ∧ ∀ c ∈ cs, c.sm := by
  unfold readR at e
  split at e
  · cases e
  · unfold readW at e
    split at e
    · split at e
      · cases e
      · rename_i cs' q
        split at e
        · rename_i d
          cases e
          have g0 : Good 0 [] := ⟨Nat.le_refl _, fun c hc => by cases hc⟩
          have hm : ∀ l ∈ (spS 10 t).dropLast, l.length + 2 ≤ cap := fun l hl => by
            have := spS_mem (List.dropLast_subset _ hl)
            omega
          have g := rdL_good hm g0 q
          have hl := spS_len 10 t
          have g2 := g.sm (by rw [List.length_dropLast]; omega)
          exact ⟨d, g2.1, fun c hc => (g2.2 c hc).1⟩
        · cases e
    · split at e <;> cases e
theorem rs_str {c : Ca} {s : Str} {k : D → Prop} {x : Kx} (hl : s.length + 2 ≤ cap) (h1 : ∀ i, readR s = .text i → x c.BadText (some ("row", .int (i : Nat)))) (h2 : ∀ n, readR s = .schema n → x c.BadSchema (some ("name", optD n))) (h3 : ∀ cs, readR s = .value cs → k (schD c cs)) : T_read_schema c [.str s] k x := by
  refine ⟨_, rfl, rfl, hl, ?_⟩
  cases e : readR s with
  | text i => exact h1 i e
  | schema n => exact h2 n e
  | value cs => exact h3 cs e
def isS : D → Bool
  | .str _ => true
  | _ => false
theorem rs_no {c : Ca} {d : D} {k : D → Prop} {x : Kx} (hk : kn d) (hd : isS d = false) (h : x c.BadText (some ("row", .int 0))) : T_read_schema c [d] k x := by
  refine ⟨_, rfl, hk, ?_⟩
  cases d with
  | str s => cases hd
  | _ => exact h
theorem tells_sok {a b d : Addr} : ∀ e ∈ tells a b d, SOk e.2.2 := fun e h => by
  simp only [tells, List.mem_cons, List.not_mem_nil, or_false] at h
  rcases h with rfl | rfl | rfl
  · exact sok_of (s := "text") (by decide +kernel)
  · exact sok_of (s := "schema") (by decide +kernel)
  · exact sok_of (s := "graph") (by decide +kernel)
theorem tells_sok2 {a b d : Addr} : ∀ (x : Addr) (y z : Str), (x, y, z) ∈ tells a b d → SOk z := fun x y z h => tells_sok _ h
theorem tells_t {a b d : Addr} : (a, (("row" : Str), ("text" : Str))) ∈ tells a b d := by simp [tells]
theorem tells_s {a b d : Addr} : (b, (("name" : Str), ("schema" : Str))) ∈ tells a b d := by simp [tells]
theorem readR_nil : readR ⟨#[]⟩ = .text 0 := by
  unfold readR
  rw [if_pos (by decide +kernel)]
abbrev pl (l : List Sl) : Prop := l.all Sl.plain = true
theorem pl_set {l : List Sl} {s : Sl} (i : Nat) (h : pl l) (hs : s.plain = true) : pl (l.set i s) := by
  have h' := List.all_eq_true.mp h
  refine List.all_eq_true.mpr fun x hx => ?_
  rcases List.mem_or_eq_of_mem_set hx with z | z
  · exact h' x z
  · rw [z]; exact hs
theorem pl_erase {l : List Sl} (i : Nat) (h : pl l) : pl (l.eraseIdx i) := by
  have h' := List.all_eq_true.mp h
  exact List.all_eq_true.mpr fun x hx => h' x (List.mem_of_mem_eraseIdx hx)
theorem linesC_le {c : Cls} (h : SmC c) : ∀ l ∈ linesC c, l.length ≤ 1000 := fun l hl => by
  rcases List.mem_cons.mp hl with e | hl
  · rw [e]
    cases q : c.h with
    | none =>
      rw [lineO_none q]
      have h1 := join_len (y := ⟨#[32]⟩) (parts := ["class", c.n, "own"])
      have hn := h.n
      have a1 : (("class" : Str)).length = 5 := by decide +kernel
      have a2 : (("own" : Str)).length = 3 := by decide +kernel
      have a3 : ((⟨#[32]⟩ : Str)).length = 1 := rfl
      simp only [List.map_cons, List.map_nil, List.sum_cons, List.sum_nil, List.length_cons, List.length_nil, a1, a2, a3] at h1
      omega
    | some ls =>
      rw [lineO_some q]
      obtain ⟨g1, g2⟩ := h.h ls q
      have h1 := join_len (y := ⟨#[32]⟩) (parts := "class" :: c.n :: "reads" :: ls)
      have h2 := sum6 g2
      have hn := h.n
      have a1 : (("class" : Str)).length = 5 := by decide +kernel
      have a2 : (("reads" : Str)).length = 5 := by decide +kernel
      have a3 : ((⟨#[32]⟩ : Str)).length = 1 := rfl
      simp only [List.map_cons, List.sum_cons, List.length_cons, a1, a2, a3] at h1
      omega
  · obtain ⟨s, hs, rfl⟩ := List.mem_map.mp hl
    have hS := h.s s hs
    rw [slotL_eq, str_app_len]
    have h1 := join_len (y := ⟨#[32]⟩) (parts := s.n :: s.w :: s.f :: s.g.map hashAny)
    have h2 := sum6 (hash6 hS)
    have g1 := hS.n
    have g2 := hS.w
    have g3 := hS.f
    have g4 := hS.g
    have a3 : ((⟨#[32]⟩ : Str)).length = 1 := rfl
    have a4 : ((⟨#[32, 32]⟩ : Str)).length = 2 := rfl
    simp only [List.map_cons, List.sum_cons, List.length_cons, List.length_map, a3] at h1
    rw [List.length_map] at h2
    omega
end DL
namespace DL
open PySem PySem.Spec PyProof.Rows L2
def wt (L : List Str) : Nat := (L.map (·.length)).sum + L.length
theorem wt_app (L M : List Str) : wt (L ++ M) = wt L + wt M := by
  simp only [wt, List.map_append, List.sum_append, List.length_append]
  omega
theorem wt_nil : wt [] = 0 := rfl
theorem wt_cons (a : Str) (L : List Str) : wt (a :: L) = a.length + 1 + wt L := by
  simp only [wt, List.map_cons, List.sum_cons, List.length_cons]
  omega
theorem wt_mem {L : List Str} {s : Str} (h : s ∈ L) : s.length + 1 ≤ wt L := by
  induction L with
  | nil => cases h
  | cons a L ih =>
    rw [wt_cons]
    rcases List.mem_cons.mp h with rfl | h
    · omega
    · have := ih h
      omega
theorem wt_take_drop (L : List Str) (n : Nat) : wt (L.take n) + wt (L.drop n) = wt L := by
  rw [← wt_app, List.take_append_drop]
theorem wt_drop_le (L : List Str) {n m : Nat} (h : n ≤ m) : wt (L.drop m) ≤ wt (L.drop n) := by
  obtain ⟨k, rfl⟩ := Nat.le.dest h
  rw [← List.drop_drop]
  have := wt_take_drop (L.drop n) k
  omega
theorem wt_cut (L M : List Str) {n m : Nat} (h : n ≤ m) : wt (L.take n ++ M ++ L.drop m) ≤ wt L + wt M := by
  rw [wt_app, wt_app]
  have := wt_take_drop L n
  have := wt_drop_le L h
  omega
theorem wt_spS (c : Nat) (s : Str) : wt (spS c s) = s.length + 1 := by
  have key : ∀ l : List Nat, wt ((splitC c l).map mkS) = l.length + 1 := by
    intro l
    induction l with
    | nil => simp [splitC, wt, mkS]
    | cons x r ih =>
      unfold splitC
      split
      · rw [List.map_cons, wt_cons, ih, mkS_len]
        simp
        omega
      · split
        · rename_i h t e
          rw [e] at ih
          rw [List.map_cons, wt_cons, mkS_len] at ih
          rw [List.map_cons, wt_cons, mkS_len]
          simp at ih ⊢
          omega
        · rename_i e
          exact absurd e (splitC_ne c r)
  unfold spS
  rw [key, slen]
theorem join_wt {y : Str} {L : List Str} (h : y.length = 1) : (PySem.Txt.join y L).length ≤ wt L := by
  have := join_len (y := y) (parts := L)
  rw [h, Nat.mul_one] at this
  exact this
theorem sIx_int {n d : Nat} {r : Int} (h : 0 ≤ r) : HT.sIx n d (some r) = min r.toNat n := if_neg (by omega)
theorem cut_to {L : List Str} {r : Int} (h : 0 ≤ r) : cutD (L.map D.str) none (some r) = (L.take r.toNat).map D.str := by
  unfold cutD
  rw [sIx_int h, HT.sIx_none, List.drop_zero, Nat.sub_zero, List.length_map]
  rcases Nat.le_total r.toNat L.length with z | z
  · rw [Nat.min_eq_left z, List.map_take]
  · rw [Nat.min_eq_right z, List.take_of_length_le (by simp), List.take_of_length_le z]
theorem cut_from {L : List Str} {r : Int} (h : 0 ≤ r) : cutD (L.map D.str) (some r) none = (L.drop r.toNat).map D.str := by
  unfold cutD
  rw [sIx_int h, HT.sIx_none, List.length_map]
  rcases Nat.le_total r.toNat L.length with z | z
  · rw [Nat.min_eq_left z, List.map_drop, List.take_of_length_le (by simp)]
  · rw [Nat.min_eq_right z, Nat.sub_self, List.take_zero, List.drop_of_length_le z]
    rfl
theorem cutS_leT {t : Str} {r : Int} (h : 0 ≤ r) : (cutS t none (some r)).length ≤ r.toNat := by
  unfold cutS
  rw [sIx_int h, HT.sIx_none]
  simp [Str.length]
  omega
theorem cutS_leF {t : Str} {r : Int} (h : 0 ≤ r) : (cutS t (some r) none).length ≤ t.length - r.toNat := by
  unfold cutS
  rw [sIx_int h, HT.sIx_none]
  simp [Str.length]
  omega
theorem eqOk_strs (n : Nat) (l : List Str) : (l.map D.str).all (eqOk n) = true := by
  rw [List.all_eq_true]
  intro d hd
  obtain ⟨s, _, rfl⟩ := List.mem_map.mp hd
  cases n <;> rfl
theorem eqOk_str (n : Nat) (s : Str) : eqOk n (.str s) = true := by cases n <;> rfl
theorem eqOk_slt (n : Nat) (s : Slt) : eqOk (n + 2) s.d = true := by
  simp [Slt.d, eqOk, sD, eqOk_strs, eqOk_str]
theorem eqOk_hD (n : Nat) (h : Option (List Str)) : eqOk (n + 1) (hD h) = true := by
  cases h with
  | none => rfl
  | some l => exact eqOk_strs n l
theorem eqOk_cls (n : Nat) (c : Cls) : eqOk (n + 4) c.d = true := by
  show ([D.str c.n, D.tup (c.sl.map Slt.d), hD c.h].all (eqOk (n + 3))) = true
  rw [List.all_cons, List.all_cons, List.all_cons, List.all_nil, eqOk_str, eqOk_hD (n + 2)]
  have : eqOk (n + 3) (D.tup (c.sl.map Slt.d)) = true := by
    show ((c.sl.map Slt.d).all (eqOk (n + 2))) = true
    rw [List.all_eq_true]
    intro d hd
    obtain ⟨s, _, rfl⟩ := List.mem_map.mp hd
    exact eqOk_slt n s
  rw [this]
  rfl
theorem eqOk_cs (cs : List Cls) : eqOk 6 (.tup (cs.map Cls.d)) = true := by
  show ((cs.map Cls.d).all (eqOk 5)) = true
  rw [List.all_eq_true]
  intro d hd
  obtain ⟨s, _, rfl⟩ := List.mem_map.mp hd
  exact eqOk_cls 1 s
theorem vc_Schema___eq__ {c : Ca} : ∀ ds k x, T_Schema___eq__ c ds k x → t_Schema___eq__ c (kd0 k x) (st0 n_Schema___eq__.length ds) := by
  rintro ds k x ⟨cs, rfl, q⟩
  simp [t_Schema___eq__, st0, schD]
  exact ⟨eqOk_cs cs, q⟩
end DL
namespace DL
open PySem PySem.Spec PyProof.Rows L2
theorem sm_char {k : D → Prop} {x : Kx} {nx : List Sl → Prop} {t : Str} {way : Int} {L : List Str} (ht : t.length ≤ 700000) (h0 : ¬ t = ⟨#[]⟩) (q : ∀ t' : Str, t'.length ≤ 2 * t.length + 20 → k (.str t')) :
    t__law_smudged_b1 { nx := nx, rt := fun _ => k, bk := fun _ => False, ct := fun _ => False, x := x } [Sl.d D.drw, Sl.d (D.str t), Sl.u, Sl.u, Sl.u, Sl.u, Sl.d (D.int way), Sl.d (D.lst (List.map D.str L)), Sl.u] := by
  have hz : 0 < t.length := by
    rcases Nat.eq_zero_or_pos t.length with z | z
    · exact absurd (by
        obtain ⟨a⟩ := t
        simp [Str.length] at z
        simp [z]) h0
    · exact z
  simp [t__law_smudged_b1]
  refine ⟨by omega, by omega, by omega, fun r r0 r1 => ?_⟩
  simp [t__law_smudged_b1_1, -T__law_pick]
  refine ⟨by decide +kernel, by decide +kernel, fun c hc => ?_⟩
  unfold t__law_smudged_b1_2
  simp only [dRet, dOp, dSl, dVar, dNoPart, dPart, dCall, dCons, dLst, dNil, dC, frz, frzs, val, List.getElem?_cons_zero, List.getElem?_cons_succ, dCut, dAdd, dIx]
  obtain ⟨c1, e1, m1⟩ := atI_in (xs := t.cps.toList) r0 (by simpa [Str.length] using r1)
  have one : ∀ c : Nat, (⟨#[c]⟩ : Str).length = 1 := fun _ => rfl
  have hto := cutS_leT (t := t) r0
  have hfr := cutS_leF (t := t) (r := r + 1) (by omega)
  refine ⟨r, rfl, by omega, by omega, c1, e1, by rw [one, one]; omega, by simp, ?_⟩
  have key : ∀ u : Str, u.length ≤ 2 → (cutS t none (some r)).length + u.length ≤ 16777216 ∧ ∃ i, Rx.d (D.int (r + 1)) = Rx.d (D.int i) ∧ t.length ≤ 16777216 ∧ (cutS t none (some r) ++ u).length + (cutS t (some i) none).length ≤ 16777216 ∧ k (D.str (cutS t none (some r) ++ u ++ cutS t (some i) none)) := fun u hu =>
    ⟨by omega, r + 1, rfl, by omega, by rw [str_app_len]; omega, q _ (by rw [str_app_len, str_app_len]; omega)⟩
  refine ⟨by simp, by simp, fun d hd => ?_⟩
  simp only [List.mem_cons, List.not_mem_nil, or_false] at hd
  rcases hd with rfl | rfl | rfl
  · exact key _ (by rw [one]; omega)
  · exact key _ (by decide)
  · exact key _ (by rw [str_app_len, one, one]; omega)
def someL : List Str := ["0", "1", "01", "999", "1000", "-0", "-7", "1234567", "#", "own", "reads", "first", "later", "one", "row", "set", "class", "a", ⟨#[]⟩]
theorem some_len {s : Str} (h : s ∈ someL) : s.length ≤ 7 := by
  have : someL.all (fun s => decide (s.length ≤ 7)) = true := by decide +kernel
  exact of_decide_eq_true (List.all_eq_true.mp this s h)
theorem wt_without {L : List Str} {a : Nat} {l : Str} (h : L[a]? = some l) : wt (L.take a) + wt (L.drop (a + 1)) + (l.length + 1) = wt L := by
  obtain ⟨ha, rfl⟩ := List.getElem?_eq_some_iff.mp h
  have h1 := wt_take_drop L a
  rw [List.drop_eq_getElem_cons ha, wt_cons] at h1
  omega
theorem sm_end {k : D → Prop} {x : Kx} {t : Str} {way spot : Int} {S : Sl} {L W : List Str} {a : Nat} {l : Str} (ht : t.length ≤ 700000) (wl : wt L = t.length + 1) (hl : L[a]? = some l) (wW : wt W ≤ l.length + 13 + t.length) (q : ∀ t' : Str, t'.length ≤ 2 * t.length + 20 → k (.str t')) :
    t__law_smudged_10 (kd0 k x) [Sl.d D.drw, Sl.d (D.str t), Sl.d (D.int (a : Nat)), Sl.o (List.map D.str W), S, Sl.d (D.int spot), Sl.d (D.int way), Sl.d (D.lst (List.map D.str L)), Sl.u] := by
  have hw0 := wt_without hl
  have hj := join_wt (y := ⟨#[32]⟩) (L := W) rfl
  have lW : W.length ≤ wt W := by unfold wt; omega
  have e1 : cutD (L.map D.str) none (some (a : Int)) = (L.take a).map D.str := cut_to (Int.natCast_nonneg a)
  have e2 : cutD (L.map D.str) (some ((a : Int) + 1)) none = (L.drop (a + 1)).map D.str := by
    rw [cut_from (by omega), show ((a : Int) + 1).toNat = a + 1 from by omega]
  have lt := wt_app (L.take a) ((PySem.Txt.join ⟨#[32]⟩ W) :: L.drop (a + 1))
  rw [wt_cons] at lt
  have hj2 := join_wt (y := ⟨#[10]⟩) (L := L.take a ++ (PySem.Txt.join ⟨#[32]⟩ W) :: L.drop (a + 1)) rfl
  have lL : L.length ≤ wt L := by unfold wt; omega
  have hw2 : (L.take a ++ (PySem.Txt.join ⟨#[32]⟩ W) :: L.drop (a + 1)).length ≤ 16777216 := by
    have : (L.take a ++ (PySem.Txt.join ⟨#[32]⟩ W) :: L.drop (a + 1)).length ≤ wt (L.take a ++ (PySem.Txt.join ⟨#[32]⟩ W) :: L.drop (a + 1)) := by unfold wt; omega
    omega
  have hw3 : wt (L.take a ++ (PySem.Txt.join ⟨#[32]⟩ W) :: L.drop (a + 1)) ≤ 16777216 := by omega
  simp [t__law_smudged_10]
  refine ⟨W, rfl, by unfold wt at wW; omega, ?_⟩
  rw [e1, e2]
  refine ⟨by simp; omega, by simp; omega, L.take a ++ (PySem.Txt.join ⟨#[32]⟩ W) :: L.drop (a + 1), by simp, by unfold wt at hw3; exact hw3, q _ (by omega)⟩
theorem wt_set {W : List Str} {n : Nat} {s : Str} : wt (W.set n s) ≤ wt W + s.length := by
  induction W generalizing n with
  | nil => simp [wt]
  | cons w W ih =>
    cases n with
    | zero => rw [List.set_cons_zero, wt_cons, wt_cons]; omega
    | succ n =>
      have := ih (n := n)
      rw [List.set_cons_succ, wt_cons, wt_cons]; omega
theorem wt_erase {W : List Str} {n : Nat} : wt (W.eraseIdx n) ≤ wt W := by
  induction W generalizing n with
  | nil => simp [wt]
  | cons w W ih =>
    cases n with
    | zero => rw [List.eraseIdx_cons_zero, wt_cons]; omega
    | succ n =>
      have := ih (n := n)
      rw [List.eraseIdx_cons_succ, wt_cons, wt_cons]; omega
theorem mapErase {W : List Str} {n : Nat} : (W.map D.str).eraseIdx n = (W.eraseIdx n).map D.str := by
  induction W generalizing n with
  | nil => simp
  | cons w W ih =>
    cases n with
    | zero => rfl
    | succ n => rw [List.map_cons, List.eraseIdx_cons_succ, List.eraseIdx_cons_succ, List.map_cons, ih]
theorem sm_words {k : D → Prop} {x : Kx} {t : Str} {way : Int} {L W : List Str} {a n : Nat} {l : Str} (ht : t.length ≤ 700000) (wl : wt L = t.length + 1) (hL : ∀ l ∈ L, l.length ≤ t.length) (ne : 0 < L.length) (hl : L[a]? = some l) (wW : wt W = l.length + 1) (hn : n < W.length) (q : ∀ t' : Str, t'.length ≤ 2 * t.length + 20 → k (.str t')) :
    t__law_smudged_9 (kd0 k x) [Sl.d D.drw, Sl.d (D.str t), Sl.d (D.int (a : Nat)), Sl.o (List.map D.str W), .d (.lst (someL.map D.str)), Sl.d (D.int (n : Nat)), Sl.d (D.int way), Sl.d (D.lst (List.map D.str L)), Sl.u] := by
  have lW : W.length ≤ wt W := by unfold wt; omega
  have hll := hL l (List.mem_of_getElem? hl)
  have lL : L.length ≤ wt L := by unfold wt; omega
  have sl : someL.length = 19 := rfl
  simp [t__law_smudged_9, -T__law_pick]
  by_cases c4 : way = 4
  · rw [if_pos c4]
    refine ⟨by simp [sl], by simp [sl], fun d hd => ?_⟩
    obtain ⟨s, hs, rfl⟩ := List.mem_map.mp hd
    have := some_len hs
    have hc := wt_cut W [s] (Nat.le_refl n)
    rw [wt_cons, wt_nil] at hc
    have e : List.take n (List.map D.str W) ++ D.str s :: List.drop n (List.map D.str W) = List.map D.str (W.take n ++ [s] ++ W.drop n) := by simp
    rw [e]
    exact ⟨by omega, by omega, sm_end ht wl hl (by omega) q⟩
  · rw [if_neg c4]
    have last : t__law_smudged_b4
        { nx := fun ρ' => t__law_smudged_10 (kd0 k x) ρ', rt := fun _ => k, bk := fun _ => False, ct := fun _ => False, x := x }
        [Sl.d D.drw, Sl.d (D.str t), Sl.d (D.int (a : Nat)), Sl.o (List.map D.str W), Sl.d (D.lst (List.map D.str someL)), Sl.d (D.int (n : Nat)), Sl.d (D.int way), Sl.d (D.lst (List.map D.str L)), Sl.u] := by
      simp [t__law_smudged_b4, -T__law_pick]
      refine ⟨by simpa using ne, by simp; omega, fun d hd => ?_⟩
      obtain ⟨s, hs, rfl⟩ := List.mem_map.mp hd
      have hsl := hL s hs
      have wS := wt_spS 32 s
      have lS := spS_len 32 s
      refine ⟨s, rfl, by omega, by rw [sl]; omega, ?_⟩
      have e : List.map D.str someL ++ List.map D.str (spS 32 s) = List.map D.str (someL ++ spS 32 s) := by simp
      rw [e]
      refine ⟨by simp [sl]; omega, by simp [sl]; omega, fun d hd => ?_⟩
      obtain ⟨u, hu, rfl⟩ := List.mem_map.mp hd
      have lu : u.length ≤ 7 + t.length := by
        rcases List.mem_append.mp hu with h | h
        · have := some_len h
          omega
        · have := spS_mem h
          omega
      have en : ixN W.length (n : Int) = some n := by
        unfold ixN
        rw [if_pos (by omega), if_pos (by omega)]
        rfl
      have e2 : (List.map D.str W).set n (D.str u) = (W.set n u).map D.str := List.map_set.symm
      refine ⟨n, en, ?_⟩
      rw [e2]
      have := wt_set (W := W) (n := n) (s := u)
      exact sm_end ht wl hl (by omega) q
    simp [t__law_smudged_b5]
    by_cases c5 : way = 5
    · rw [if_pos c5]
      by_cases c6 : 1 < (W.length : Int)
      · rw [if_pos c6]
        have es : seqIndex? (n : Int) W.length = some n := by
          unfold seqIndex?
          simp
          omega
        have e : (List.map D.str W).eraseIdx n = (W.eraseIdx n).map D.str := by
          exact mapErase
        have := wt_erase (W := W) (n := n)
        refine ⟨by omega, n, es, ⟨_, _, List.getElem?_eq_getElem hn, rfl⟩, ?_⟩
        rw [e]
        exact sm_end ht wl hl (by omega) q
      · rw [if_neg c6]
        exact last
    · rw [if_neg c5]
      exact last
theorem sm_lines {k : D → Prop} {x : Kx} {t : Str} {way : Int} {L : List Str} (ht : t.length ≤ 700000) (w0 : 0 ≤ way) (wl : wt L = t.length + 1) (hL : ∀ l ∈ L, l.length ≤ t.length) (ln : L.length ≤ t.length + 1) (ne : L ≠ []) (q : ∀ t' : Str, t'.length ≤ 2 * t.length + 20 → k (.str t')) :
    t__law_smudged_2 (kd0 k x) [Sl.d D.drw, Sl.d (D.str t), Sl.u, Sl.u, Sl.u, Sl.u, Sl.d (D.int way), Sl.d (D.lst (List.map D.str L)), Sl.u] := by
  have l0 : 0 < L.length := List.length_pos_iff.mpr ne
  simp [t__law_smudged_2]
  refine ⟨by omega, by omega, fun at_ a0 a1 => ?_⟩
  simp [t__law_smudged_3]
  by_cases c2 : way = 2
  · rw [if_pos c2]
    simp [t__law_smudged_b2]
    rw [cut_to a0, cut_from (by omega)]
    have hc := wt_cut L [] (n := at_.toNat) (m := (at_ + 1).toNat) (by omega)
    rw [List.append_nil, wt_nil] at hc
    have hw : wt (L.take at_.toNat ++ L.drop (at_ + 1).toNat) ≤ 16777216 := by omega
    refine ⟨by simp; omega, _, (List.map_append).symm, ?_, q _ ?_⟩
    · unfold wt at hw
      exact hw
    · have := join_wt (y := ⟨#[10]⟩) (L := L.take at_.toNat ++ L.drop (at_ + 1).toNat) rfl
      omega
  · rw [if_neg c2]
    simp [t__law_smudged_4]
    by_cases c3 : way = 3
    · rw [if_pos c3]
      simp [t__law_smudged_b3, -T__law_pick]
      rw [cut_to a0, cut_from a0]
      refine ⟨by simpa using l0, by simp; omega, fun d hd => ?_⟩
      obtain ⟨l, hl, rfl⟩ := List.mem_map.mp hd
      have hc := wt_cut L [l] (n := at_.toNat) (m := at_.toNat) (Nat.le_refl _)
      have hm := wt_mem hl
      rw [wt_cons, wt_nil] at hc
      have hw : wt (L.take at_.toNat ++ [l] ++ L.drop at_.toNat) ≤ 16777216 := by omega
      refine ⟨by simp; omega, by simp; omega, L.take at_.toNat ++ [l] ++ L.drop at_.toNat, by simp, ?_, q _ ?_⟩
      · unfold wt at hw
        exact hw
      · have := join_wt (y := ⟨#[10]⟩) (L := L.take at_.toNat ++ [l] ++ L.drop at_.toNat) rfl
        omega
    · rw [if_neg c3]
      simp [t__law_smudged_5]
      obtain ⟨a, rfl⟩ := Int.eq_ofNat_of_zero_le a0
      have ha : a < L.length := by omega
      have hl := List.getElem?_eq_getElem ha
      generalize L[a] = l at hl
      have hll := hL l (List.mem_of_getElem? hl)
      refine ⟨D.str l, by rw [atI_nat, List.getElem?_map, hl] <;> rfl, l, rfl, by omega, ?_⟩
      have wW := wt_spS 32 l
      have wN : spS 32 l ≠ [] := by
        obtain ⟨ini, last, e⟩ := spS_snoc 32 l
        rw [e]; simp
      generalize spS 32 l = W at wW wN ⊢
      have lW : W.length ≤ wt W := by unfold wt; omega
      have pW : 0 < W.length := List.length_pos_iff.mpr wN
      simp [t__law_smudged_6, t__law_smudged_7, t__law_smudged_8]
      refine ⟨by omega, by omega, fun r r0 r1 => ?_⟩
      obtain ⟨n, rfl⟩ := Int.eq_ofNat_of_zero_le r0
      exact sm_words (n := n) ht wl hL l0 hl wW (by omega) q
theorem vc__law_smudged : ∀ ds k x, T__law_smudged ds k x → t__law_smudged (kd0 k x) (st0 n__law_smudged.length ds) := by
  intro ds k x h
  unfold T__law_smudged at h
  split at h
  · rename_i t
    obtain ⟨ht, q⟩ := h
    simp [t__law_smudged, st0, -T__law_pick]
    intro way w0 w1
    refine ⟨by omega, ?_⟩
    have ll := sm_lines (x := x) (way := way) (L := spS 10 t) ht w0 (wt_spS 10 t) (fun l hl => spS_mem hl) (spS_len 10 t) (by
      obtain ⟨ini, last, e⟩ := spS_snoc 10 t
      rw [e]; simp) q
    simp [t__law_smudged_1, -T__law_pick]
    by_cases c : way < 2
    · rw [if_pos c]
      by_cases c2 : t = ⟨#[]⟩
      · rw [if_pos c2]
        exact ll
      · rw [if_neg c2]
        exact sm_char ht c2 q
    · rw [if_neg c]
      exact ll
  · exact h.elim
end DL
namespace DL
open PySem PySem.Spec PyProof.Rows L2
def lsl (S : D) (tb : Addr) (s2 s3 s4 s5 s6 : Sl) : List Sl := [.d S, .d .drw, s2, s3, s4, s5, s6, .t tb "law.<locals>.<lambda>"]
theorem loopC {tb : Addr} {S : D} {kd : KD} {tok : Tok kd} {t : Str} {s2 s4 s5 s6 : Sl} {n : Nat} (hn4 : n ≤ 4) (ht : t.length ≤ 85000) (hp : pl [s2, s4, s5, s6]) (hn : ∀ (t : Str) s4, t.length ≤ 16000000 → pl [s2, s4, s5, s6] → kd.nx (lsl S tb s2 (.d (.str t)) s4 s5 s6)) :
    ForR (gN 4) (dSet 3 (dCall T__law_smudged (dCons (dVar 1) (dCons (dVar 3) dNil)))) kd tok ((List.range n).map fun i => .int (i : Nat)) (lsl S tb s2 (.d (.str t)) s4 s5 s6) := by
  refine for_inv (fun es ρ => ∃ (t : Str) (m : Nat) (s4 : Sl), es.length + m = n ∧ t.length + 20 ≤ 2 ^ m * 85020 ∧ pl [s2, s4, s5, s6] ∧ (∀ d ∈ es, ∃ i : Nat, d = .int i) ∧ ρ = lsl S tb s2 (.d (.str t)) s4 s5 s6) ?_ ?_ ⟨t, 0, s4, by simp, by omega, hp, fun d h => by
    obtain ⟨i, _, rfl⟩ := List.mem_map.mp h
    exact ⟨i, rfl⟩, rfl⟩
  · rintro d es ρ ⟨t, m, s4, e1, e2, hp, hd, rfl⟩ kd' hr hx hn' hc hb
    obtain ⟨i, rfl⟩ := hd d (by simp)
    simp only [List.length_cons] at e1
    have hm : m ≤ 3 := by omega
    have hpow : 2 ^ m ≤ 2 ^ 3 := Nat.pow_le_pow_right (by omega) hm
    have hp2 : pl [s2, .d (.int (i : Nat)), s5, s6] := pl_set 1 hp rfl
    simp [lsl]
    refine ⟨by omega, fun t' ht' => hn' _ ⟨t', m + 1, _, by omega, by rw [Nat.pow_succ]; omega, hp2, fun d' h => hd d' (by simp [h]), rfl⟩⟩
  · rintro ρ ⟨t, m, s4, e1, e2, hp, hd, rfl⟩
    have hm : m ≤ 4 := by simp only [List.length_nil] at e1; omega
    have hpow : 2 ^ m ≤ 2 ^ 4 := Nat.pow_le_pow_right (by omega) hm
    exact hn t s4 (by omega) hp
theorem ne_tv : ¬ Str.ofString "text" = Str.ofString "value" := by decide +kernel
theorem ne_sv : ¬ Str.ofString "schema" = Str.ofString "value" := by decide +kernel
theorem tail {c : Ca} {tb : Addr} {S : D} {kd : KD} {t : Str} {s2 s4 s5 s6 : Sl} (ht : t.length ≤ 16000000) (hp : pl [s2, s4, s5, s6]) (hn : ∀ d5 d6, pl [s2, s4, .d d5, .d d6] → kd.nx (lsl S tb s2 (.d (.str t)) s4 (.d d5) (.d d6))) :
    t_law_b1_2 c tb kd (lsl S tb s2 (.d (.str t)) s4 s5 s6) := by
  simp [-T_read_schema, -T__law_read_sheets, t_law_b1_2, lsl]
  refine ⟨by simp only [cap]; omega, ⟨7, rfl⟩, by simpa [Sl.plain] using hp, tells_sok2, ?_⟩
  have hp2 : ∀ d5 d6, pl [s2, s4, .d d5, .d d6] := fun d5 d6 => pl_set 2 (s := .d d5) (pl_set 3 hp (s := .d d6) rfl) rfl
  have go : ∀ d6, kd.nx [Sl.d S, Sl.d D.drw, s2, .d (.str t), s4, .d (readR t).d, .d d6, Sl.t tb (Str.ofString "law.<locals>.<lambda>")] := fun d6 => hn _ _ (hp2 _ _)
  refine rs_str (by simp only [cap]; omega) (fun j e => ?_) (fun n e => ?_) fun cs e => ?_
  · have g2 := go (.tup [.str "text", .int (j : Nat)])
    have hr := repr_text (i := j) (by have := readR_row e; omega)
    rw [e] at g2 ⊢
    refine ⟨_, _, ⟨_, tells_t, rfl⟩, ?_⟩
    simp [SR.d, t_law_b1_3, t_law_b1_4] at g2 ⊢
    split
    · exact ⟨ne_tv, g2⟩
    · exact ⟨hr, ne_tv, g2⟩
  · have g2 := go (.tup [.str "schema", optD n])
    rw [e] at g2 ⊢
    refine ⟨_, _, ⟨_, tells_s, rfl⟩, ?_⟩
    cases n with
    | none =>
      simp [SR.d, optD, t_law_b1_3, t_law_b1_4] at g2 ⊢
      split
      · exact ⟨ne_sv, g2⟩
      · exact ⟨repr_none, ne_sv, g2⟩
    | some n =>
      have hr := repr_name (readR_name e)
      simp [SR.d, optD, t_law_b1_3, t_law_b1_4] at g2 ⊢
      split
      · exact ⟨ne_sv, g2⟩
      · exact ⟨hr, ne_sv, g2⟩
  · have g2 := go (.tup [.str "value", schD c cs])
    obtain ⟨b1, b2, b3⟩ := readR_good (by simp only [cap]; omega) e
    rw [e] at g2 ⊢
    simp [SR.d, t_law_b1_3, t_law_b1_4] at g2 ⊢
    refine ⟨_, rfl, cs, rfl, b2, b3, ?_⟩
    rw [b1]
    exact ⟨⟨cs, rfl, rfl⟩, g2⟩
theorem vc_law {c : Ca} {tb : Addr} {ns : List D} {k : D → Prop} {x : Kx} (hl : ns.length ≤ 63) (q : k (.bl true)) : t_law c tb (kd0 k x) (lsl (.lsq ns) tb .u .u .u .u .u) := by
  simp [t_law, lsl]
  refine ⟨by split <;> omega, by split <;> omega, ?_⟩
  refine for_inv (fun es ρ => ∃ s2 s3 s4 s5 s6, pl [s2, s3, s4, s5, s6] ∧ (∀ d ∈ es, ∃ i : Nat, d = .int i) ∧ ρ = lsl (.lsq ns) tb s2 s3 s4 s5 s6) ?_ ?_ ⟨.u, .u, .u, .u, .u, rfl, fun d h => by
    obtain ⟨i, _, rfl⟩ := List.mem_map.mp h
    exact ⟨i, rfl⟩, rfl⟩
  · rintro d es ρ ⟨s2, s3, s4, s5, s6, hp, hd, rfl⟩ kd' hr hx hn' hc hb
    obtain ⟨i, rfl⟩ := hd d (by simp)
    simp [-T__law_page, -T__law_schema_lines, -T__law_sheets, t_law_b1, lsl]
    refine ⟨by omega, by omega, by omega, by omega, fun cs h1 h2 => ?_⟩
    refine ⟨cs, rfl, by omega, h2, ?_⟩
    have hlen : (cs.flatMap linesC).length ≤ cs.length * 21 := by
      clear h1 hn' hc hb
      induction cs with
      | nil => simp
      | cons a r ih =>
        have := ih fun x hx => h2 x (List.mem_cons_of_mem _ hx)
        have := linesC_len (h2 a (by simp))
        simp only [List.flatMap_cons, List.length_append, List.length_cons]
        omega
    refine ⟨_, rfl, by omega, fun l hl => ?_, fun t _ ht0 => ?_⟩
    · obtain ⟨a, ha, hl⟩ := List.mem_flatMap.mp hl
      exact linesC_le (h2 a ha) l hl
    · have ht : t.length ≤ 85000 := by omega
      simp [t_law_b1_1]
      intro r r0 r1
      refine ⟨by omega, by omega, ?_⟩
      refine loopC (by omega) ht (pl_erase 1 (pl_set 0 hp (s := .d (.int (i : Nat))) rfl)) fun t s4 ht hp => ?_
      refine tail (c := c) (tb := tb) ht hp fun d5 d6 hp => hn' _ ⟨_, _, _, _, _, ?_, fun d' h => hd d' (by simp [h]), rfl⟩
      simp only [pl, List.all_cons, List.all_nil, Bool.and_eq_true, Sl.plain] at hp ⊢
      simp [hp]
  · rintro ρ ⟨s2, s3, s4, s5, s6, hp, hd, rfl⟩
    simp [t_law_1, lsl]
    exact q
end DL
namespace DL
open PySem PySem.Spec PyProof.Rows L2
section
variable {c : Ca} {P : Program} {w : World} {K : PySem.W.Frag} {mg : Str → Option Value} {base : Heap}
theorem ok_is_name (W : Wr c P w K mg base) : CalD P w K mg base 2 "is_name" T_is_name :=
  calD W.d_is_name sc_is_name (by intro ds k x h; first | (unfold T_is_name at h; split at h <;> first | rfl | exact h.elim) | (obtain ⟨_, rfl, _⟩ := h; rfl) | (obtain ⟨_, _, rfl, _⟩ := h; rfl) | (obtain ⟨_, _, _, rfl, _⟩ := h; rfl) | (unfold T_is_name T_is_name at h; split at h <;> first | rfl | exact h.elim) | (unfold T_is_name T_read_head at h; split at h <;> first | rfl | exact h.elim) | (unfold T_is_name T_read_slot at h; split at h <;> first | rfl | exact h.elim)) (fun f cdv A outer s H E hr => ds_is_name W hr) vc_is_name
theorem ok__law_is_name (W : Wr c P w K mg base) : CalD P w K mg base 2 "_law_is_name" T__law_is_name :=
  calD W.d__law_is_name sc__law_is_name (by intro ds k x h; first | (unfold T__law_is_name at h; split at h <;> first | rfl | exact h.elim) | (obtain ⟨_, rfl, _⟩ := h; rfl) | (obtain ⟨_, _, rfl, _⟩ := h; rfl) | (obtain ⟨_, _, _, rfl, _⟩ := h; rfl) | (unfold T__law_is_name T_is_name at h; split at h <;> first | rfl | exact h.elim) | (unfold T__law_is_name T_read_head at h; split at h <;> first | rfl | exact h.elim) | (unfold T__law_is_name T_read_slot at h; split at h <;> first | rfl | exact h.elim)) (fun f cdv A outer s H E hr => ds__law_is_name W hr) vc__law_is_name
theorem ok_read_head (W : Wr c P w K mg base) (c_is_name : CalD P w K mg base 2 "is_name" T_is_name) : CalD P w K mg base 3 "read_head" T_read_head :=
  calD W.d_read_head sc_read_head (by intro ds k x h; first | (unfold T_read_head at h; split at h <;> first | rfl | exact h.elim) | (obtain ⟨_, rfl, _⟩ := h; rfl) | (obtain ⟨_, _, rfl, _⟩ := h; rfl) | (obtain ⟨_, _, _, rfl, _⟩ := h; rfl) | (unfold T_read_head T_is_name at h; split at h <;> first | rfl | exact h.elim) | (unfold T_read_head T_read_head at h; split at h <;> first | rfl | exact h.elim) | (unfold T_read_head T_read_slot at h; split at h <;> first | rfl | exact h.elim)) (fun f cdv A outer s H E hr => ds_read_head W c_is_name hr) vc_read_head
theorem ok_read_slot (W : Wr c P w K mg base) (c_is_name : CalD P w K mg base 2 "is_name" T_is_name) : CalD P w K mg base 3 "read_slot" T_read_slot :=
  calD W.d_read_slot sc_read_slot (by intro ds k x h; first | (unfold T_read_slot at h; split at h <;> first | rfl | exact h.elim) | (obtain ⟨_, rfl, _⟩ := h; rfl) | (obtain ⟨_, _, rfl, _⟩ := h; rfl) | (obtain ⟨_, _, _, rfl, _⟩ := h; rfl) | (unfold T_read_slot T_is_name at h; split at h <;> first | rfl | exact h.elim) | (unfold T_read_slot T_read_head at h; split at h <;> first | rfl | exact h.elim) | (unfold T_read_slot T_read_slot at h; split at h <;> first | rfl | exact h.elim)) (fun f cdv A outer s H E hr => ds_read_slot W c_is_name hr) vc_read_slot
theorem ok_split_text (W : Wr c P w K mg base) : CalD P w K mg base 2 "split_text" T_split_text :=
  calD W.d_split_text sc_split_text (by intro ds k x h; first | (unfold T_split_text at h; split at h <;> first | rfl | exact h.elim) | (obtain ⟨_, rfl, _⟩ := h; rfl) | (obtain ⟨_, _, rfl, _⟩ := h; rfl) | (obtain ⟨_, _, _, rfl, _⟩ := h; rfl) | (unfold T_split_text T_is_name at h; split at h <;> first | rfl | exact h.elim) | (unfold T_split_text T_read_head at h; split at h <;> first | rfl | exact h.elim) | (unfold T_split_text T_read_slot at h; split at h <;> first | rfl | exact h.elim)) (fun f cdv A outer s H E hr => ds_split_text W hr) vc_split_text
theorem ok_is_ascending (W : Wr c P w K mg base) : CalD P w K mg base 2 "is_ascending" T_is_ascending :=
  calD W.d_is_ascending sc_is_ascending (by intro ds k x h; first | (unfold T_is_ascending at h; split at h <;> first | rfl | exact h.elim) | (obtain ⟨_, rfl, _⟩ := h; rfl) | (obtain ⟨_, _, rfl, _⟩ := h; rfl) | (obtain ⟨_, _, _, rfl, _⟩ := h; rfl) | (unfold T_is_ascending T_is_name at h; split at h <;> first | rfl | exact h.elim) | (unfold T_is_ascending T_read_head at h; split at h <;> first | rfl | exact h.elim) | (unfold T_is_ascending T_read_slot at h; split at h <;> first | rfl | exact h.elim)) (fun f cdv A outer s H E hr => ds_is_ascending W hr) vc_is_ascending
theorem ok_is_slot (W : Wr c P w K mg base) (c_is_ascending : CalD P w K mg base 2 "is_ascending" T_is_ascending) (c_is_name : CalD P w K mg base 2 "is_name" T_is_name) : CalD P w K mg base 3 "is_slot" T_is_slot :=
  calD W.d_is_slot sc_is_slot (by intro ds k x h; first | (unfold T_is_slot at h; split at h <;> first | rfl | exact h.elim) | (obtain ⟨_, rfl, _⟩ := h; rfl) | (obtain ⟨_, _, rfl, _⟩ := h; rfl) | (obtain ⟨_, _, _, rfl, _⟩ := h; rfl) | (unfold T_is_slot T_is_name at h; split at h <;> first | rfl | exact h.elim) | (unfold T_is_slot T_read_head at h; split at h <;> first | rfl | exact h.elim) | (unfold T_is_slot T_read_slot at h; split at h <;> first | rfl | exact h.elim)) (fun f cdv A outer s H E hr => ds_is_slot W c_is_ascending c_is_name hr) vc_is_slot
theorem ok_is_hash (W : Wr c P w K mg base) (c_is_ascending : CalD P w K mg base 2 "is_ascending" T_is_ascending) : CalD P w K mg base 3 "is_hash" T_is_hash :=
  calD W.d_is_hash sc_is_hash (by intro ds k x h; first | (unfold T_is_hash at h; split at h <;> first | rfl | exact h.elim) | (obtain ⟨_, rfl, _⟩ := h; rfl) | (obtain ⟨_, _, rfl, _⟩ := h; rfl) | (obtain ⟨_, _, _, rfl, _⟩ := h; rfl) | (unfold T_is_hash T_is_name at h; split at h <;> first | rfl | exact h.elim) | (unfold T_is_hash T_read_head at h; split at h <;> first | rfl | exact h.elim) | (unfold T_is_hash T_read_slot at h; split at h <;> first | rfl | exact h.elim)) (fun f cdv A outer s H E hr => ds_is_hash W c_is_ascending hr) vc_is_hash
theorem ok__law_head_of (W : Wr c P w K mg base) (c__law_is_name : CalD P w K mg base 2 "_law_is_name" T__law_is_name) : CalD P w K mg base 3 "_law_head_of" T__law_head_of :=
  calD W.d__law_head_of sc__law_head_of (by intro ds k x h; first | (unfold T__law_head_of at h; split at h <;> first | rfl | exact h.elim) | (obtain ⟨_, rfl, _⟩ := h; rfl) | (obtain ⟨_, _, rfl, _⟩ := h; rfl) | (obtain ⟨_, _, _, rfl, _⟩ := h; rfl) | (unfold T__law_head_of T_is_name at h; split at h <;> first | rfl | exact h.elim) | (unfold T__law_head_of T_read_head at h; split at h <;> first | rfl | exact h.elim) | (unfold T__law_head_of T_read_slot at h; split at h <;> first | rfl | exact h.elim)) (fun f cdv A outer s H E hr => ds__law_head_of W c__law_is_name hr) vc__law_head_of
theorem ok__law_hole_of (W : Wr c P w K mg base) (c__law_is_name : CalD P w K mg base 2 "_law_is_name" T__law_is_name) : CalD P w K mg base 3 "_law_hole_of" T__law_hole_of :=
  calD W.d__law_hole_of sc__law_hole_of (by intro ds k x h; first | (unfold T__law_hole_of at h; split at h <;> first | rfl | exact h.elim) | (obtain ⟨_, rfl, _⟩ := h; rfl) | (obtain ⟨_, _, rfl, _⟩ := h; rfl) | (obtain ⟨_, _, _, rfl, _⟩ := h; rfl) | (unfold T__law_hole_of T_is_name at h; split at h <;> first | rfl | exact h.elim) | (unfold T__law_hole_of T_read_head at h; split at h <;> first | rfl | exact h.elim) | (unfold T__law_hole_of T_read_slot at h; split at h <;> first | rfl | exact h.elim)) (fun f cdv A outer s H E hr => ds__law_hole_of W c__law_is_name hr) vc__law_hole_of
theorem ok_are_slots (W : Wr c P w K mg base) (c_is_slot : CalD P w K mg base 3 "is_slot" T_is_slot) : CalD P w K mg base 4 "are_slots" T_are_slots :=
  calD W.d_are_slots sc_are_slots (by intro ds k x h; first | (unfold T_are_slots at h; split at h <;> first | rfl | exact h.elim) | (obtain ⟨_, rfl, _⟩ := h; rfl) | (obtain ⟨_, _, rfl, _⟩ := h; rfl) | (obtain ⟨_, _, _, rfl, _⟩ := h; rfl) | (unfold T_are_slots T_is_name at h; split at h <;> first | rfl | exact h.elim) | (unfold T_are_slots T_read_head at h; split at h <;> first | rfl | exact h.elim) | (unfold T_are_slots T_read_slot at h; split at h <;> first | rfl | exact h.elim)) (fun f cdv A outer s H E hr => ds_are_slots W c_is_slot hr) vc_are_slots
theorem ok_is_class (W : Wr c P w K mg base) (c_are_slots : CalD P w K mg base 4 "are_slots" T_are_slots) (c_is_hash : CalD P w K mg base 3 "is_hash" T_is_hash) : CalD P w K mg base 5 "is_class" T_is_class :=
  calD W.d_is_class sc_is_class (by intro ds k x h; first | (unfold T_is_class at h; split at h <;> first | rfl | exact h.elim) | (obtain ⟨_, rfl, _⟩ := h; rfl) | (obtain ⟨_, _, rfl, _⟩ := h; rfl) | (obtain ⟨_, _, _, rfl, _⟩ := h; rfl) | (unfold T_is_class T_is_name at h; split at h <;> first | rfl | exact h.elim) | (unfold T_is_class T_read_head at h; split at h <;> first | rfl | exact h.elim) | (unfold T_is_class T_read_slot at h; split at h <;> first | rfl | exact h.elim)) (fun f cdv A outer s H E hr => ds_is_class W c_are_slots c_is_hash hr) vc_is_class
theorem ok_are_named (W : Wr c P w K mg base) (c_is_name : CalD P w K mg base 2 "is_name" T_is_name) : CalD P w K mg base 3 "are_named" T_are_named :=
  calD W.d_are_named sc_are_named (by intro ds k x h; first | (unfold T_are_named at h; split at h <;> first | rfl | exact h.elim) | (obtain ⟨_, rfl, _⟩ := h; rfl) | (obtain ⟨_, _, rfl, _⟩ := h; rfl) | (obtain ⟨_, _, _, rfl, _⟩ := h; rfl) | (unfold T_are_named T_is_name at h; split at h <;> first | rfl | exact h.elim) | (unfold T_are_named T_read_head at h; split at h <;> first | rfl | exact h.elim) | (unfold T_are_named T_read_slot at h; split at h <;> first | rfl | exact h.elim)) (fun f cdv A outer s H E hr => ds_are_named W c_is_name hr) vc_are_named
theorem ok_Schema___init__ (W : Wr c P w K mg base) (c_are_named : CalD P w K mg base 3 "are_named" T_are_named) (c_is_class : CalD P w K mg base 5 "is_class" T_is_class) : MakD P w K mg base 6 "Schema" c.Schema (T_Schema c) := by
  obtain ⟨f, fd, hM, hF, hm, hb⟩ := W.k_Schema
  exact ⟨f, fd, _, hM, fnI hF sc_Schema___init__ (by intro ds k x h; first | (unfold T_Schema___init__ at h; split at h <;> first | rfl | exact h.elim) | (obtain ⟨_, rfl, _⟩ := h; rfl) | (obtain ⟨_, _, rfl, _⟩ := h; rfl) | (obtain ⟨_, _, _, rfl, _⟩ := h; rfl) | (unfold T_Schema___init__ T_is_name at h; split at h <;> first | rfl | exact h.elim) | (unfold T_Schema___init__ T_read_head at h; split at h <;> first | rfl | exact h.elim) | (unfold T_Schema___init__ T_read_slot at h; split at h <;> first | rfl | exact h.elim)) (fun cdv A outer s H E hr => ds_Schema___init__ W c_are_named c_is_class hr) vc_Schema___init__, hm, hb⟩
theorem ok_Schema___eq__ (W : Wr c P w K mg base) : EqD P w K mg base 2 c.Schema (T_Schema___eq__ c) := by
  obtain ⟨f, fd, hE, hF, hb⟩ := W.q_Schema
  exact ⟨f, fd, _, hE, fnD hF sc_Schema___eq__ (by intro ds k x h; first | (unfold T_Schema___eq__ at h; split at h <;> first | rfl | exact h.elim) | (obtain ⟨_, rfl, _⟩ := h; rfl) | (obtain ⟨_, _, rfl, _⟩ := h; rfl) | (obtain ⟨_, _, _, rfl, _⟩ := h; rfl) | (unfold T_Schema___eq__ T_is_name at h; split at h <;> first | rfl | exact h.elim) | (unfold T_Schema___eq__ T_read_head at h; split at h <;> first | rfl | exact h.elim) | (unfold T_Schema___eq__ T_read_slot at h; split at h <;> first | rfl | exact h.elim)) (fun cdv A outer s H E hr => ds_Schema___eq__ W hr) vc_Schema___eq__, hb⟩
theorem ok_read_schema (W : Wr c P w K mg base) (c_Schema___init__ : MakD P w K mg base 6 "Schema" c.Schema (T_Schema c)) (c_read_head : CalD P w K mg base 3 "read_head" T_read_head) (c_read_slot : CalD P w K mg base 3 "read_slot" T_read_slot) (c_split_text : CalD P w K mg base 2 "split_text" T_split_text) : CalD P w K mg base 8 "read_schema" (T_read_schema c) :=
  calD W.d_read_schema sc_read_schema (by intro ds k x h; first | (unfold T_read_schema at h; split at h <;> first | rfl | exact h.elim) | (obtain ⟨_, rfl, _⟩ := h; rfl) | (obtain ⟨_, _, rfl, _⟩ := h; rfl) | (obtain ⟨_, _, _, rfl, _⟩ := h; rfl) | (unfold T_read_schema T_is_name at h; split at h <;> first | rfl | exact h.elim) | (unfold T_read_schema T_read_head at h; split at h <;> first | rfl | exact h.elim) | (unfold T_read_schema T_read_slot at h; split at h <;> first | rfl | exact h.elim)) (fun f cdv A outer s H E hr => ds_read_schema W c_Schema___init__ c_read_head c_read_slot c_split_text hr) vc_read_schema
theorem ok__law_is_hole (W : Wr c P w K mg base) (c__law_is_name : CalD P w K mg base 2 "_law_is_name" T__law_is_name) : CalD P w K mg base 3 "_law_is_hole" T__law_is_hole :=
  calD W.d__law_is_hole sc__law_is_hole (by intro ds k x h; first | (unfold T__law_is_hole at h; split at h <;> first | rfl | exact h.elim) | (obtain ⟨_, rfl, _⟩ := h; rfl) | (obtain ⟨_, _, rfl, _⟩ := h; rfl) | (obtain ⟨_, _, _, rfl, _⟩ := h; rfl) | (unfold T__law_is_hole T_is_name at h; split at h <;> first | rfl | exact h.elim) | (unfold T__law_is_hole T_read_head at h; split at h <;> first | rfl | exact h.elim) | (unfold T__law_is_hole T_read_slot at h; split at h <;> first | rfl | exact h.elim)) (fun f cdv A outer s H E hr => ds__law_is_hole W c__law_is_name hr) vc__law_is_hole
theorem ok__law_is_sheet (W : Wr c P w K mg base) (c__law_is_hole : CalD P w K mg base 3 "_law_is_hole" T__law_is_hole) : CalD P w K mg base 4 "_law_is_sheet" T__law_is_sheet :=
  calD W.d__law_is_sheet sc__law_is_sheet (by intro ds k x h; first | (unfold T__law_is_sheet at h; split at h <;> first | rfl | exact h.elim) | (obtain ⟨_, rfl, _⟩ := h; rfl) | (obtain ⟨_, _, rfl, _⟩ := h; rfl) | (obtain ⟨_, _, _, rfl, _⟩ := h; rfl) | (unfold T__law_is_sheet T_is_name at h; split at h <;> first | rfl | exact h.elim) | (unfold T__law_is_sheet T_read_head at h; split at h <;> first | rfl | exact h.elim) | (unfold T__law_is_sheet T_read_slot at h; split at h <;> first | rfl | exact h.elim)) (fun f cdv A outer s H E hr => ds__law_is_sheet W c__law_is_hole hr) vc__law_is_sheet
theorem ok__law_sheets_due (W : Wr c P w K mg base) (c__law_is_name : CalD P w K mg base 2 "_law_is_name" T__law_is_name) (c__law_is_sheet : CalD P w K mg base 4 "_law_is_sheet" T__law_is_sheet) : CalD P w K mg base 5 "_law_sheets_due" T__law_sheets_due :=
  calD W.d__law_sheets_due sc__law_sheets_due (by intro ds k x h; first | (unfold T__law_sheets_due at h; split at h <;> first | rfl | exact h.elim) | (obtain ⟨_, rfl, _⟩ := h; rfl) | (obtain ⟨_, _, rfl, _⟩ := h; rfl) | (obtain ⟨_, _, _, rfl, _⟩ := h; rfl) | (unfold T__law_sheets_due T_is_name at h; split at h <;> first | rfl | exact h.elim) | (unfold T__law_sheets_due T_read_head at h; split at h <;> first | rfl | exact h.elim) | (unfold T__law_sheets_due T_read_slot at h; split at h <;> first | rfl | exact h.elim)) (fun f cdv A outer s H E hr => ds__law_sheets_due W c__law_is_name c__law_is_sheet hr) vc__law_sheets_due
theorem ok__law_read_sheets (W : Wr c P w K mg base) (c__law_head_of : CalD P w K mg base 3 "_law_head_of" T__law_head_of) (c__law_hole_of : CalD P w K mg base 3 "_law_hole_of" T__law_hole_of) (c__law_sheets_due : CalD P w K mg base 5 "_law_sheets_due" T__law_sheets_due) : CalD P w K mg base 6 "_law_read_sheets" T__law_read_sheets :=
  calD W.d__law_read_sheets sc__law_read_sheets (by intro ds k x h; first | (unfold T__law_read_sheets at h; split at h <;> first | rfl | exact h.elim) | (obtain ⟨_, rfl, _⟩ := h; rfl) | (obtain ⟨_, _, rfl, _⟩ := h; rfl) | (obtain ⟨_, _, _, rfl, _⟩ := h; rfl) | (unfold T__law_read_sheets T_is_name at h; split at h <;> first | rfl | exact h.elim) | (unfold T__law_read_sheets T_read_head at h; split at h <;> first | rfl | exact h.elim) | (unfold T__law_read_sheets T_read_slot at h; split at h <;> first | rfl | exact h.elim)) (fun f cdv A outer s H E hr => ds__law_read_sheets W c__law_head_of c__law_hole_of c__law_sheets_due hr) vc__law_read_sheets
theorem ok__law_pick (W : Wr c P w K mg base) (c__law_draw : CalD P w K mg base 2 "_law_draw" T__law_draw) : CalD P w K mg base 3 "_law_pick" T__law_pick :=
  calD W.d__law_pick sc__law_pick (by intro ds k x h; first | (unfold T__law_pick at h; split at h <;> first | rfl | exact h.elim) | (obtain ⟨_, rfl, _⟩ := h; rfl) | (obtain ⟨_, _, rfl, _⟩ := h; rfl) | (obtain ⟨_, _, _, rfl, _⟩ := h; rfl) | (unfold T__law_pick T_is_name at h; split at h <;> first | rfl | exact h.elim) | (unfold T__law_pick T_read_head at h; split at h <;> first | rfl | exact h.elim) | (unfold T__law_pick T_read_slot at h; split at h <;> first | rfl | exact h.elim)) (fun f cdv A outer s H E hr => ds__law_pick W c__law_draw hr) vc__law_pick
theorem ok__law_labels (W : Wr c P w K mg base) (c__law_draw : CalD P w K mg base 2 "_law_draw" T__law_draw) (c__law_pick : CalD P w K mg base 3 "_law_pick" T__law_pick) : CalD P w K mg base 4 "_law_labels" T__law_labels :=
  calD W.d__law_labels sc__law_labels (by intro ds k x h; first | (unfold T__law_labels at h; split at h <;> first | rfl | exact h.elim) | (obtain ⟨_, rfl, _⟩ := h; rfl) | (obtain ⟨_, _, rfl, _⟩ := h; rfl) | (obtain ⟨_, _, _, rfl, _⟩ := h; rfl) | (unfold T__law_labels T_is_name at h; split at h <;> first | rfl | exact h.elim) | (unfold T__law_labels T_read_head at h; split at h <;> first | rfl | exact h.elim) | (unfold T__law_labels T_read_slot at h; split at h <;> first | rfl | exact h.elim)) (fun f cdv A outer s H E hr => ds__law_labels W c__law_draw c__law_pick hr) vc__law_labels
theorem ok__law_hole (W : Wr c P w K mg base) (c__law_draw : CalD P w K mg base 2 "_law_draw" T__law_draw) (c__law_pick : CalD P w K mg base 3 "_law_pick" T__law_pick) : CalD P w K mg base 4 "_law_hole" T__law_hole :=
  calD W.d__law_hole sc__law_hole (by intro ds k x h; first | (unfold T__law_hole at h; split at h <;> first | rfl | exact h.elim) | (obtain ⟨_, rfl, _⟩ := h; rfl) | (obtain ⟨_, _, rfl, _⟩ := h; rfl) | (obtain ⟨_, _, _, rfl, _⟩ := h; rfl) | (unfold T__law_hole T_is_name at h; split at h <;> first | rfl | exact h.elim) | (unfold T__law_hole T_read_head at h; split at h <;> first | rfl | exact h.elim) | (unfold T__law_hole T_read_slot at h; split at h <;> first | rfl | exact h.elim)) (fun f cdv A outer s H E hr => ds__law_hole W c__law_draw c__law_pick hr) vc__law_hole
theorem ok__law_sheet (W : Wr c P w K mg base) (c__law_draw : CalD P w K mg base 2 "_law_draw" T__law_draw) (c__law_hole : CalD P w K mg base 4 "_law_hole" T__law_hole) (c__law_labels : CalD P w K mg base 4 "_law_labels" T__law_labels) : CalD P w K mg base 5 "_law_sheet" T__law_sheet :=
  calD W.d__law_sheet sc__law_sheet (by intro ds k x h; first | (unfold T__law_sheet at h; split at h <;> first | rfl | exact h.elim) | (obtain ⟨_, rfl, _⟩ := h; rfl) | (obtain ⟨_, _, rfl, _⟩ := h; rfl) | (obtain ⟨_, _, _, rfl, _⟩ := h; rfl) | (unfold T__law_sheet T_is_name at h; split at h <;> first | rfl | exact h.elim) | (unfold T__law_sheet T_read_head at h; split at h <;> first | rfl | exact h.elim) | (unfold T__law_sheet T_read_slot at h; split at h <;> first | rfl | exact h.elim)) (fun f cdv A outer s H E hr => ds__law_sheet W c__law_draw c__law_hole c__law_labels hr) vc__law_sheet
theorem ok__law_sheets (W : Wr c P w K mg base) (c__law_draw : CalD P w K mg base 2 "_law_draw" T__law_draw) (c__law_labels : CalD P w K mg base 4 "_law_labels" T__law_labels) (c__law_sheet : CalD P w K mg base 5 "_law_sheet" T__law_sheet) : CalD P w K mg base 6 "_law_sheets" T__law_sheets :=
  calD W.d__law_sheets sc__law_sheets (by intro ds k x h; first | (unfold T__law_sheets at h; split at h <;> first | rfl | exact h.elim) | (obtain ⟨_, rfl, _⟩ := h; rfl) | (obtain ⟨_, _, rfl, _⟩ := h; rfl) | (obtain ⟨_, _, _, rfl, _⟩ := h; rfl) | (unfold T__law_sheets T_is_name at h; split at h <;> first | rfl | exact h.elim) | (unfold T__law_sheets T_read_head at h; split at h <;> first | rfl | exact h.elim) | (unfold T__law_sheets T_read_slot at h; split at h <;> first | rfl | exact h.elim)) (fun f cdv A outer s H E hr => ds__law_sheets W c__law_draw c__law_labels c__law_sheet hr) vc__law_sheets
theorem ok__law_sheet_lines (W : Wr c P w K mg base) : CalD P w K mg base 2 "_law_sheet_lines" T__law_sheet_lines :=
  calD W.d__law_sheet_lines sc__law_sheet_lines (by intro ds k x h; first | (unfold T__law_sheet_lines at h; split at h <;> first | rfl | exact h.elim) | (obtain ⟨_, rfl, _⟩ := h; rfl) | (obtain ⟨_, _, rfl, _⟩ := h; rfl) | (obtain ⟨_, _, _, rfl, _⟩ := h; rfl) | (unfold T__law_sheet_lines T_is_name at h; split at h <;> first | rfl | exact h.elim) | (unfold T__law_sheet_lines T_read_head at h; split at h <;> first | rfl | exact h.elim) | (unfold T__law_sheet_lines T_read_slot at h; split at h <;> first | rfl | exact h.elim)) (fun f cdv A outer s H E hr => ds__law_sheet_lines W hr) vc__law_sheet_lines
theorem ok__law_schema_lines (W : Wr c P w K mg base) (c__law_sheet_lines : CalD P w K mg base 2 "_law_sheet_lines" T__law_sheet_lines) : CalD P w K mg base 3 "_law_schema_lines" T__law_schema_lines :=
  calD W.d__law_schema_lines sc__law_schema_lines (by intro ds k x h; first | (unfold T__law_schema_lines at h; split at h <;> first | rfl | exact h.elim) | (obtain ⟨_, rfl, _⟩ := h; rfl) | (obtain ⟨_, _, rfl, _⟩ := h; rfl) | (obtain ⟨_, _, _, rfl, _⟩ := h; rfl) | (unfold T__law_schema_lines T_is_name at h; split at h <;> first | rfl | exact h.elim) | (unfold T__law_schema_lines T_read_head at h; split at h <;> first | rfl | exact h.elim) | (unfold T__law_schema_lines T_read_slot at h; split at h <;> first | rfl | exact h.elim)) (fun f cdv A outer s H E hr => ds__law_schema_lines W c__law_sheet_lines hr) vc__law_schema_lines
theorem ok__law_page (W : Wr c P w K mg base) : CalD P w K mg base 2 "_law_page" T__law_page :=
  calD W.d__law_page sc__law_page (by intro ds k x h; first | (unfold T__law_page at h; split at h <;> first | rfl | exact h.elim) | (obtain ⟨_, rfl, _⟩ := h; rfl) | (obtain ⟨_, _, rfl, _⟩ := h; rfl) | (obtain ⟨_, _, _, rfl, _⟩ := h; rfl) | (unfold T__law_page T_is_name at h; split at h <;> first | rfl | exact h.elim) | (unfold T__law_page T_read_head at h; split at h <;> first | rfl | exact h.elim) | (unfold T__law_page T_read_slot at h; split at h <;> first | rfl | exact h.elim)) (fun f cdv A outer s H E hr => ds__law_page W hr) vc__law_page
theorem ok__law_smudged (W : Wr c P w K mg base) (c__law_draw : CalD P w K mg base 2 "_law_draw" T__law_draw) (c__law_pick : CalD P w K mg base 3 "_law_pick" T__law_pick) : CalD P w K mg base 4 "_law_smudged" T__law_smudged :=
  calD W.d__law_smudged sc__law_smudged (by intro ds k x h; first | (unfold T__law_smudged at h; split at h <;> first | rfl | exact h.elim) | (obtain ⟨_, rfl, _⟩ := h; rfl) | (obtain ⟨_, _, rfl, _⟩ := h; rfl) | (obtain ⟨_, _, _, rfl, _⟩ := h; rfl) | (unfold T__law_smudged T_is_name at h; split at h <;> first | rfl | exact h.elim) | (unfold T__law_smudged T_read_head at h; split at h <;> first | rfl | exact h.elim) | (unfold T__law_smudged T_read_slot at h; split at h <;> first | rfl | exact h.elim)) (fun f cdv A outer s H E hr => ds__law_smudged W c__law_draw c__law_pick hr) vc__law_smudged
end
end DL
namespace DL
open PySem PySem.Spec PyProof.Rows L2
theorem sc__law_draw : FnScope ["draws", "many", "cells", "spot", "cell", "mixed"] ["draws", "many"] (defScope s__law_draw) := ⟨rfl, rfl, rfl, by decide +kernel, rfl, by decide +kernel, by decide +kernel⟩
theorem Gr.draw {a c : Addr} {F H H' : Hp} (g : Gr ⟨.dr a c, F, H, [], []⟩ F H) (hk : ∀ p, p ≠ a → p ≠ c → H' p = H p) (ok : Rs.ok (.dr a c) H') : Gr ⟨.dr a c, F, H, [], []⟩ F H' := by
  have nf : ∀ p o, F p = some o → p ≠ a ∧ p ≠ c := fun p o e => ⟨fun z => (by rw [z, (g.ff a (by simp [Rs.fp])).1] at e; cases e), fun z => (by rw [z, (g.ff c (by simp [Rs.fp])).1] at e; cases e)⟩
  refine ⟨Ex.rf _, fun p o e => ?_, fun p o e n => ?_, fun p o e => .inl e, ok, g.ff, fun _ hx => (nomatch hx), Tb.nil g.tb.ft⟩
  · rw [hk p (nf p o e).1 (nf p o e).2]
    exact g.fh p o e
  · rw [hk p (fun z => n (by simp [Rs.fp, z])) (fun z => n (by simp [Rs.fp, z]))]
    exact e
section
variable {c : Ca} {P : Program} {w : World} {K : PySem.W.Frag} {mg : Str → Option Value} {base : Heap}
theorem ds__law_draw (W : Wr c P w K mg base) (hi : mg "int" = none) {f : Addr} {cdv : Value} {A : Around} {outer : List Env} {s : Shared} {H : Hp} {E : XK} :
    ∃ t, PSs (cxOf (L2.CX P w) P w K mg base ["draws", "many", "cells", "spot", "cell", "mixed"] "_law_draw" (defScope s__law_draw) f cdv A outer s H E) (defBody s__law_draw) t := by
  refine ⟨_, pss_cons (ps_set (i := 2) sc__law_draw.nd rfl (Or.inl rfl) (pe_ix ix_seq (pe_var (i := 0) rfl (Or.inl rfl)) pe_int (by intro _ _; rfl)))
    (pss_cons (ps_set (i := 3) sc__law_draw.nd rfl (Or.inl rfl) (pe_op op_mod (pe_callTy call_int1 (by exact rfl) hi bt_int (pa_cons (pe_ix ix_seq (pe_var (i := 0) rfl (Or.inl rfl)) pe_int (by intro _ _; rfl)) pa_nil) (by decide) (by decide)) (pe_callB call_len_seq (by exact rfl) W.b_len bt_len (pa_cons (pe_var (i := 2) rfl (Or.inl rfl)) pa_nil) (by decide) (by decide))))
    (pss_cons (ps_set (i := 4) sc__law_draw.nd rfl (Or.inl rfl) (pe_ix ix_seq (pe_var (i := 2) rfl (Or.inl rfl)) (pe_var (i := 3) rfl (Or.inl rfl)) (by intro _ _; rfl)))
    (pss_cons (ps_if (pt_cmpR op_ge (pe_var (i := 4) rfl (Or.inl rfl)) (pe_op op_pow pe_int pe_int) (nomark _))
      (pss_cons (ps_asg (pe_op op_fdivNN (pe_var (i := 4) rfl (Or.inl rfl)) (pe_var (i := 1) rfl (Or.inl rfl))) (pg_sub (pe_var (i := 2) rfl (Or.inl rfl)) (pe_var (i := 3) rfl (Or.inl rfl)) set_list (by intro _; rfl)) (by rfl) (by rfl) (by rfl))
        (pss_one (ps_ret (pe_op op_mod (pe_callTy call_int1 (by exact rfl) hi bt_int (pa_cons (pe_var (i := 4) rfl (Or.inl rfl)) pa_nil) (by decide) (by decide)) (pe_var (i := 1) rfl (Or.inl rfl)))))) pss_nil)
    (pss_cons (ps_asg (pe_op op_add (pe_ix ix_seq (pe_var (i := 0) rfl (Or.inl rfl)) pe_int (by intro _ _; rfl)) pe_int) (pg_sub (pe_var (i := 0) rfl (Or.inl rfl)) pe_int set_list (by intro _; rfl)) (by rfl) (by rfl) (by rfl)) (pss_cons (ps_asg (pe_op op_mod (pe_callTy call_int1 (by exact rfl) hi bt_int (pa_cons (pe_op op_add (pe_op op_add (pe_op op_add (pe_op op_mul (pe_ix ix_seq (pe_var (i := 0) rfl (Or.inl rfl)) pe_int (by intro _ _; rfl)) pe_int) (pe_var (i := 4) rfl (Or.inl rfl))) (pe_op op_mul pe_int (pe_ix ix_seq (pe_var (i := 0) rfl (Or.inl rfl)) pe_int (by intro _ _; rfl)))) pe_int) pa_nil) (by decide) (by decide)) pe_int) (pg_sub (pe_var (i := 0) rfl (Or.inl rfl)) pe_int set_list (by intro _; rfl)) (by rfl) (by rfl) (by rfl))
    (pss_cons (ps_set (i := 5) sc__law_draw.nd rfl (Or.inl rfl) (pe_op op_mod (pe_callTy call_int1 (by exact rfl) hi bt_int (pa_cons (pe_op op_mul (pe_ix ix_seq (pe_var (i := 0) rfl (Or.inl rfl)) pe_int (by intro _ _; rfl)) (pe_ix ix_seq (pe_var (i := 0) rfl (Or.inl rfl)) pe_int (by intro _ _; rfl))) pa_nil) (by decide) (by decide)) pe_int))
    (pss_one (ps_ret (pe_op op_mod (pe_callTy call_int1 (by exact rfl) hi bt_int (pa_cons (pe_op op_fdiv (pe_var (i := 5) rfl (Or.inl rfl)) pe_int) pa_nil) (by decide) (by decide)) (pe_var (i := 1) rfl (Or.inl rfl)))))))))))⟩
theorem ok__law_draw (W : Wr c P w K mg base) (hi : mg "int" = none) : CalD P w K mg base 2 "_law_draw" T__law_draw := by
  obtain ⟨f, fd, F, mgf, kp, b⟩ := W.d__law_draw
  refine ⟨f, fd, _, F.okX (k := 1) sc__law_draw (spD_len (n := 2) fun ds k x h => ?_) (fun cdv A outer s H vs Q E hr h => ?_), mgf, kp, b⟩
  · unfold T__law_draw at h
    split at h
    · rfl
    · exact h.elim
  · obtain ⟨rs, F0, ds, k, x, g, r, t, n, m⟩ := h
    unfold T__law_draw at t
    split at t
    · rename_i many
      obtain ⟨m0, m1, q⟩ := t
      cases r with
      | cons r1 r2 =>
        cases r2 with
        | cons r2 r3 =>
          cases r3
          cases r2
          cases r1 with
          | @drw a c hrs =>
            subst hrs
            obtain ⟨hac, ns, i, mm, ha, hc, hne, hlen, hpos, hi0, hm0, hm1⟩ := g.ok
            refine ⟨_, pss_cons (ps_set (i := 2) sc__law_draw.nd rfl (Or.inl rfl) (pe_ix ix_seq (pe_var (i := 0) rfl (Or.inl rfl)) pe_int (by intro _ _; rfl)))
          (pss_cons (ps_set (i := 3) sc__law_draw.nd rfl (Or.inl rfl) (pe_op op_mod (pe_callTy call_int1 (by exact rfl) hi bt_int (pa_cons (pe_ix ix_seq (pe_var (i := 0) rfl (Or.inl rfl)) pe_int (by intro _ _; rfl)) pa_nil) (by decide) (by decide)) (pe_callB call_len_seq (by exact rfl) W.b_len bt_len (pa_cons (pe_var (i := 2) rfl (Or.inl rfl)) pa_nil) (by decide) (by decide))))
          (pss_cons (ps_set (i := 4) sc__law_draw.nd rfl (Or.inl rfl) (pe_ix ix_seq (pe_var (i := 2) rfl (Or.inl rfl)) (pe_var (i := 3) rfl (Or.inl rfl)) (by intro _ _; rfl)))
          (pss_cons (ps_if (pt_cmpR op_ge (pe_var (i := 4) rfl (Or.inl rfl)) (pe_op op_pow pe_int pe_int) (nomark _))
            (pss_cons (ps_asg (pe_op op_fdivNN (pe_var (i := 4) rfl (Or.inl rfl)) (pe_var (i := 1) rfl (Or.inl rfl))) (pg_sub (pe_var (i := 2) rfl (Or.inl rfl)) (pe_var (i := 3) rfl (Or.inl rfl)) set_list (by intro _; rfl)) (by rfl) (by rfl) (by rfl))
              (pss_one (ps_ret (pe_op op_mod (pe_callTy call_int1 (by exact rfl) hi bt_int (pa_cons (pe_var (i := 4) rfl (Or.inl rfl)) pa_nil) (by decide) (by decide)) (pe_var (i := 1) rfl (Or.inl rfl)))))) pss_nil)
          (pss_cons (ps_asg (pe_op op_add (pe_ix ix_seq (pe_var (i := 0) rfl (Or.inl rfl)) pe_int (by intro _ _; rfl)) pe_int) (pg_sub (pe_var (i := 0) rfl (Or.inl rfl)) pe_int set_list (by intro _; rfl)) (by rfl) (by rfl) (by rfl)) (pss_cons (ps_asg (pe_op op_mod (pe_callTy call_int1 (by exact rfl) hi bt_int (pa_cons (pe_op op_add (pe_op op_add (pe_op op_add (pe_op op_mul (pe_ix ix_seq (pe_var (i := 0) rfl (Or.inl rfl)) pe_int (by intro _ _; rfl)) pe_int) (pe_var (i := 4) rfl (Or.inl rfl))) (pe_op op_mul pe_int (pe_ix ix_seq (pe_var (i := 0) rfl (Or.inl rfl)) pe_int (by intro _ _; rfl)))) pe_int) pa_nil) (by decide) (by decide)) pe_int) (pg_sub (pe_var (i := 0) rfl (Or.inl rfl)) pe_int set_list (by intro _; rfl)) (by rfl) (by rfl) (by rfl))
          (pss_cons (ps_set (i := 5) sc__law_draw.nd rfl (Or.inl rfl) (pe_op op_mod (pe_callTy call_int1 (by exact rfl) hi bt_int (pa_cons (pe_op op_mul (pe_ix ix_seq (pe_var (i := 0) rfl (Or.inl rfl)) pe_int (by intro _ _; rfl)) (pe_ix ix_seq (pe_var (i := 0) rfl (Or.inl rfl)) pe_int (by intro _ _; rfl))) pa_nil) (by decide) (by decide)) pe_int))
          (pss_one (ps_ret (pe_op op_mod (pe_callTy call_int1 (by exact rfl) hi bt_int (pa_cons (pe_op op_fdiv (pe_var (i := 5) rfl (Or.inl rfl)) pe_int) pa_nil) (by decide) (by decide)) (pe_var (i := 1) rfl (Or.inl rfl))))))))))), ?_⟩
            refine ⟨_, rfl, .inl ⟨a, _, 0, .ref c, rfl, rfl, SqL.of ha, rfl, ?_⟩⟩
            have len0 : 0 < ns.length := List.length_pos_iff.mpr hne
            refine ⟨_, rfl, .inl ⟨a, _, 1, .int i, rfl, rfl, SqL.of ha, rfl, ?_⟩⟩
            have hlm : ((ns.map V.int).length : Int) = ns.length := by simp
            have sp0 : 0 ≤ i % ((ns.map V.int).length : Int) := Int.emod_nonneg _ (by omega)
            have sp1 : i % ((ns.map V.int).length : Int) < ns.length := by rw [hlm]; exact Int.emod_lt_of_pos _ (by omega)
            refine .inl ⟨i, rfl, _, rfl, c, _, rfl, .inl (SqL.of hc), i, _, rfl, rfl, by omega, ?_⟩
            obtain ⟨z, hz, zm⟩ := atI_in sp0 sp1
            have hz2 : atI (ns.map V.int) (i % ((ns.map V.int).length : Int)) = some (.int z) := by
              obtain ⟨nn, hnn⟩ := Int.eq_ofNat_of_zero_le sp0
              rw [hnn, atI_nat] at hz ⊢
              rw [List.getElem?_map, hz]
              rfl
            have z0 := hpos z zm
            refine ⟨_, rfl, _, rfl, .inl ⟨c, _, _, .int z, rfl, rfl, SqL.of hc, hz2, ?_⟩⟩
            refine ⟨_, rfl, 10, 18, rfl, rfl, ⟨by decide, by decide, by decide⟩, z, _, rfl, rfl, _, rfl, ?_⟩
            dsimp only
            split
            · obtain ⟨zn, rfl⟩ := Int.eq_ofNat_of_zero_le z0
              obtain ⟨mn, rfl⟩ := Int.eq_ofNat_of_zero_le (Int.le_of_lt m0)
              refine ⟨_, rfl, _, rfl, zn, mn, rfl, rfl, ⟨by omega, by omega⟩, ?_⟩
              obtain ⟨nn, hnn⟩ := Int.eq_ofNat_of_zero_le sp0
              have hj : nn < (ns.map V.int).length := by rw [List.length_map]; omega
              have hix : ixN (ns.map V.int).length (i % ((ns.map V.int).length : Int)) = some nn := by
                rw [hnn]
                unfold ixN
                rw [if_pos (by omega), if_pos (by omega)]
                simp
              refine ⟨_, rfl, _, rfl, c, _, _, nn, rfl, rfl, hc, hix, ?_⟩
              refine ⟨_, rfl, .inl ⟨_, rfl, ?_⟩⟩
              refine ⟨_, rfl, _, _, rfl, rfl, m0, ?_⟩
              refine n (.int _) F0 _ _ (q _ (Int.emod_nonneg _ (by omega)) (Int.emod_lt_of_pos _ m0)) (Gr.draw g (fun p _ h2 => upd_ne h2) ⟨hac, ns.set nn ((zn / mn : Nat) : Int), i, mm, by rw [upd_ne hac]; exact ha, by rw [upd_same]; simp, ?_, by simpa using hlen, fun y hy => ?_, hi0, hm0, hm1⟩) (.int _)
              · intro z
                have := congrArg List.length z
                simp at this
                exact hne this
              · rcases List.mem_or_eq_of_mem_set hy with h | h
                · exact hpos y h
                · rw [h]; exact Int.natCast_nonneg _
            · refine ⟨_, rfl, .inl ⟨a, _, 1, .int i, rfl, rfl, SqL.of ha, rfl, ?_⟩⟩
              refine ⟨_, _, rfl, rfl, ?_⟩
              refine ⟨_, rfl, a, _, 1, 1, rfl, rfl, ha, rfl, ?_⟩
              refine ⟨_, rfl, .inl ⟨a, _, 2, .int mm, rfl, rfl, SqL.of upd_same, rfl, ?_⟩⟩
              refine ⟨mm, 48271, rfl, rfl, .inr (by omega), ?_⟩
              refine ⟨_, rfl, _, _, rfl, rfl, ?_⟩
              refine ⟨_, rfl, .inl ⟨a, _, 1, .int (i + 1), rfl, rfl, SqL.of upd_same, rfl, ?_⟩⟩
              refine ⟨7919, _, rfl, rfl, .inl (by omega), ?_⟩
              refine ⟨_, _, rfl, rfl, ?_⟩
              refine ⟨_, _, rfl, rfl, ?_⟩
              refine .inl ⟨_, rfl, ?_⟩
              refine ⟨_, _, rfl, rfl, by omega, ?_⟩
              refine ⟨_, rfl, a, _, 2, 2, rfl, rfl, upd_same, rfl, ?_⟩
              refine ⟨_, rfl, .inl ⟨a, _, 2, _, rfl, rfl, SqL.of upd_same, rfl, ?_⟩⟩
              refine ⟨_, rfl, .inl ⟨a, _, 2, _, rfl, rfl, SqL.of upd_same, rfl, ?_⟩⟩
              refine ⟨_, _, rfl, rfl, .inl ⟨by omega, by omega⟩, ?_⟩
              refine .inl ⟨_, rfl, ?_⟩
              refine ⟨_, _, rfl, rfl, by omega, ?_⟩
              refine ⟨_, rfl, _, 16, rfl, rfl, ?_, ?_⟩
              · unfold CDiv
                omega
              refine .inl ⟨_, rfl, ?_⟩
              refine ⟨_, rfl, _, _, rfl, rfl, m0, ?_⟩
              refine n (.int _) F0 _ _ (q _ (Int.emod_nonneg _ (by omega)) (Int.emod_lt_of_pos _ m0)) (Gr.draw g (fun p h1 _ => by rw [upd_ne h1, upd_ne h1]) ⟨hac, ns, i + 1, _, upd_same, by rw [upd_ne hac.symm, upd_ne hac.symm]; exact hc, hne, hlen, hpos, by omega, Int.emod_nonneg _ (by omega), by omega⟩) (.int _)
    · exact t.elim
end
end DL
namespace DL
open PySem PySem.Spec PyProof.Rows L2
abbrev n__law_state : List Str := ["script", "cell"]
theorem sc__law_state : FnScope n__law_state ["script"] (defScope s__law_state) := ⟨rfl, rfl, rfl, by decide +kernel, rfl, by decide +kernel, by decide +kernel⟩
def t__law_state : TDs := dRet (dNewC (dCons (dOrC (dLcC (dIt (dSl (dVar 0) dNoPart (dPart (dC (.int 63))))) (gN 1) dYes (dCB (d1 fAbs) (dCons (dVar 1) dNil)) [1]) (dNewC (dCons (dC (.int 1)) dNil))) (dCons (dC (.int 0)) (dCons (dC (.int 1)) dNil))))
section
variable {c : Ca} {P : Program} {w : World} {K : PySem.W.Frag} {mg : Str → Option Value} {base : Heap}
theorem ds__law_state (W : Wr c P w K mg base) (ha : mg "abs" = none) {f : Addr} {cdv : Value} {A : Around} {outer : List Env} {s : Shared} {H : Hp} {E : XK} :
    DSs (cxOf (L2.CX P w) P w K mg base n__law_state "_law_state" (defScope s__law_state) f cdv A outer s H E) E (defBody s__law_state) t__law_state :=
  (dss_one (ds_ret (de_newC (da_cons (de_orC (de_lcC (own := [("cell", 1)]) rfl sc__law_state.nd (di_any (de_slice (de_var (pe_var (i := 0) rfl (Or.inl rfl))) do_none (do_some de_int))) (blkOk_by (by kernel_rfl)) (fun _ _ _ _ _ => (dg_name (i := 1) sc__law_state.nd rfl (Or.inl rfl))) (fun _ _ _ _ _ => dts_nil) (fun _ _ _ _ _ => (de_cb call_abs cd_abs (by exact rfl) ha bt_abs (da_cons (de_var (pe_var (i := 1) rfl (Or.inl rfl))) da_nil)))) (de_one (de_newC (da_cons de_int da_nil)))) (da_cons de_int (da_cons de_int da_nil))))))
def rtSt (ρ : List Sl) (d : D) : Prop := ∃ (i j : Nat) (a b : Addr) (is : List Int), d = .raw (.ref a) ∧ ρ[i]? = some (Sl.c a (.lst [.raw (.ref b), .int 0, .int 1])) ∧ ρ[j]? = some (Sl.c b (.lst (is.map D.int))) ∧ is ≠ [] ∧ is.length ≤ 63 ∧ ∀ n ∈ is, 0 ≤ n
theorem vc__law_state {ns : List Int} {x : Kx} : t__law_state { nx := fun _ => False, rt := rtSt, bk := fun _ => False, ct := fun _ => False, x := x } (st0 n__law_state.length [.lsq (ns.map D.int)]) := by
  simp [t__law_state, st0]
  rw [← List.map_take]
  refine lc_mapA D.int (fun i => .int (if i < 0 then -i else i)) (fun i _ K q => by simpa [stepLc] using q) (by simp; omega) ?_
  refine ⟨_, rfl, fun p => ⟨p, 2, _, rfl, rfl, ?_⟩⟩
  have em : (ns.take 63).map (fun i => D.int (if i < 0 then -i else i)) = ((ns.take 63).map fun i => if i < 0 then -i else i).map D.int := by rw [List.map_map]; rfl
  rw [em]
  generalize hL : ((ns.take 63).map fun i => if i < 0 then -i else i) = L
  have hl : L.length ≤ 63 := by rw [← hL]; simp; omega
  have hp : ∀ n ∈ L, 0 ≤ n := fun n hn => by
    rw [← hL] at hn
    obtain ⟨i, _, rfl⟩ := List.mem_map.mp hn
    split <;> omega
  by_cases c : L = []
  · subst c
    simp
    intro p2 p3
    exact ⟨4, 3, p3, p2, [1], rfl, rfl, rfl, by simp, by simp, by simp⟩
  · rw [if_neg (by simpa using c)]
    exact ⟨by omega, fun p2 => ⟨3, 2, p2, p, L, rfl, rfl, rfl, c, hl, hp⟩⟩
def spSt (K : PySem.W.Frag) : Sp := fun vs H Q _ => ∃ (F : Hp) (v : V) (ns : List Int), vs = [v] ∧ Gr ⟨.no, F, H, [], []⟩ F H ∧ Rp K .no F v (.lsq (ns.map D.int)) ∧
  ∀ (F' H' : Hp) (a b : Addr) (is : List Int), Gr ⟨.no, F, H, [], []⟩ F' H' → H' a = some (.lst [.ref b, .int 0, .int 1]) → H' b = some (.lst (is.map V.int)) → a ≠ b → F' a = none → F' b = none → H a = none → H b = none → is ≠ [] → is.length ≤ 63 → (∀ n ∈ is, 0 ≤ n) → Q (.ref a) H'
theorem ok__law_state (W : Wr c P w K mg base) (ha : mg "abs" = none) : ∃ f fd, FnOk P w K mg base (L2.CX P w) 1 f fd ["script"] (spSt K) ∧ mg "_law_state" = some (.ref f) ∧ PySem.W.keepIn K (.ref f) = true ∧ Binds K fd ["script"] [] := by
  obtain ⟨f, fd, Fn, mgf, kp, b⟩ := W.d__law_state
  refine ⟨f, fd, Fn.okX (k := 0) sc__law_state (fun vs H Q E h => ?_) (fun cdv A outer s H vs Q E hr h => ⟨_, ds__law_state W ha, ?_⟩), mgf, kp, b⟩
  · obtain ⟨F, v, ns, rfl, _⟩ := h
    rfl
  · obtain ⟨F, v, ns, rfl, g, r, q⟩ := h
    have S0 : Sat K ⟨.no, F, H, [], []⟩ F (st0 n__law_state.length [.lsq (ns.map D.int)]) (L2.start n__law_state [v]) H := sat_start g (.cons r .nil) (by simp)
    refine ⟨⟨.no, F, H, [], []⟩, F, _, _, S0, vc__law_state (ns := ns) (x := fun _ _ => False), ⟨fun _ _ _ _ z => z.elim, fun _ _ _ _ z => z.elim, fun _ _ _ _ z => z.elim, fun d ρ' F' σ' u H' q' e' S' r' => ?_⟩, fun _ _ _ _ _ z => z.elim⟩
    obtain ⟨i, j, a, b', is, rfl, hi, hj, h1, h2, h3⟩ := q'
    cases r'
    obtain ⟨vs, ha', ra⟩ := S'.cellL hi
    obtain ⟨ws, hb', rb⟩ := S'.cellL hj
    obtain ⟨_, _, _, fa, za, _⟩ := S'.cell hi
    obtain ⟨_, _, _, fb, zb, _⟩ := S'.cell hj
    cases ra with
    | cons ra1 ra =>
      cases ra with
      | cons ra2 ra =>
        cases ra with
        | cons ra3 ra =>
          cases ra
          cases ra1
          cases ra2
          cases ra3
          cases rb.ints
          refine q F' H' a b' is S'.toGr ha' hb' (fun z => ?_) fa fb za zb h1 h2 h3
          rw [z, hb'] at ha'
          cases is with
          | nil => exact h1 rfl
          | cons n is => simp at ha'
end
end DL
namespace DL
open PySem PySem.Spec PyProof.Rows L2
theorem sat_law {K : PySem.W.Frag} {F F' H H' : Hp} {σ : L2.St} {S : D} {v0 : V} {tb a b : Addr} {is : List Int} (g : Gr ⟨.no, F, H, [], []⟩ F' H') (h1 : H' a = some (.lst [.ref b, .int 0, .int 1])) (h2 : H' b = some (.lst (is.map V.int))) (ne : a ≠ b) (f1 : F' a = none) (f2 : F' b = none) (z1 : H a = none) (z2 : H b = none)
    (i1 : is ≠ []) (i2 : is.length ≤ 63) (i3 : ∀ n ∈ is, 0 ≤ n) (ht : H tb = some (.tbl #[])) (hf : F tb = none) (hs : σ.length = 7) (s0 : σ[0]? = some (some v0)) (s1 : σ[1]? = some (some (.ref a))) (r0 : Rp K (.dr a b) F' v0 S) :
    Sat K ⟨.dr a b, F', fun p => if p = a ∨ p = b then H' p else none, [], [(tb, "law.<locals>.<lambda>")]⟩ F' (lsl S tb .u .u .u .u .u) σ H' := by
  have ht' : H' tb = some (.tbl #[]) := g.h0 tb _ ht (by intro z; cases z)
  have na : tb ≠ a := fun z => by rw [z, z1] at ht; cases ht
  have nb : tb ≠ b := fun z => by rw [z, z2] at ht; cases ht
  refine ⟨⟨Ex.rf _, g.fh, fun p o e _ => ?_, fun p o e => .inl e, ⟨ne, is, 0, 1, h1, h2, i1, i2, i3, by omega, by omega, by omega⟩, fun p hp => ?_, fun _ hx => (nomatch hx), ⟨g.tb.ft, fun _ hx => (nomatch hx), fun p hp => ?_, fun _ p ps e => ?_⟩⟩, by rw [hs]; simp [lsl], fun i t hi => ?_, fun i j xs ys v hi => ?_, fun i j p x y hi => ?_, fun i j xs p x hi => ?_⟩
  · have e' : (if p = a ∨ p = b then H' p else none) = some o := e
    split at e'
    · exact e'
    · cases e'
  · rcases List.mem_cons.mp hp with rfl | hp
    · exact ⟨f1, _, by show (if p = p ∨ p = b then H' p else none) = _; rw [if_pos (.inl rfl)]; exact h1⟩
    · rcases List.mem_cons.mp hp with rfl | hp
      · exact ⟨f2, _, by show (if p = a ∨ p = p then H' p else none) = _; rw [if_pos (.inr rfl)]; exact h2⟩
      · cases hp
  · rw [List.mem_singleton.mp hp]
    exact ⟨LamX.TabS.nil ht', g.nocome (by rw [ht]; intro z; cases z) hf, if_neg (fun z => z.elim na nb)⟩
  · have e' : (if p = a ∨ p = b then H' p else none) = some (.tbl ps) := e
    split at e'
    · rename_i z
      rcases z with rfl | rfl
      · rw [h1] at e'; cases e'
      · rw [h2] at e'; cases e'
    · cases e'
  · unfold lsl at hi
    match i, hi with
    | 0, hi => cases hi; exact ⟨_, s0, r0⟩
    | 1, hi => cases hi; exact ⟨_, s1, .drw rfl⟩
    | 2, hi => cases hi; trivial
    | 3, hi => cases hi; trivial
    | 4, hi => cases hi; trivial
    | 5, hi => cases hi; trivial
    | 6, hi => cases hi; trivial
    | 7, hi => cases hi; rfl
    | (i + 8), hi => simp at hi
  · unfold lsl at hi
    match i, hi with
    | (i + 8), hi => simp at hi
  · unfold lsl at hi
    match i, hi with
    | (i + 8), hi => simp at hi
  · unfold lsl at hi
    match i, hi with
    | (i + 8), hi => simp at hi
section
variable {c : Ca} {P : Program} {w : World} {K : PySem.W.Frag} {mg : Str → Option Value} {base : Heap}
theorem law_calls (W : Wr c P w K mg base) (hi : mg "int" = none) :
    EqD P w K mg base 2 c.Schema (T_Schema___eq__ c) ∧ MakD P w K mg base 6 "Schema" c.Schema (T_Schema c) ∧ CalD P w K mg base 2 "_law_draw" T__law_draw ∧ CalD P w K mg base 2 "_law_page" T__law_page ∧ CalD P w K mg base 6 "_law_read_sheets" T__law_read_sheets ∧ CalD P w K mg base 3 "_law_schema_lines" T__law_schema_lines ∧ CalD P w K mg base 6 "_law_sheets" T__law_sheets ∧ CalD P w K mg base 4 "_law_smudged" T__law_smudged ∧ CalD P w K mg base 8 "read_schema" (T_read_schema c) := by
  have c__law_draw := ok__law_draw W hi
  have c_is_name := ok_is_name W
  have c__law_is_name := ok__law_is_name W
  have c_read_head := ok_read_head W c_is_name
  have c_read_slot := ok_read_slot W c_is_name
  have c_split_text := ok_split_text W
  have c_is_ascending := ok_is_ascending W
  have c_is_slot := ok_is_slot W c_is_ascending c_is_name
  have c_is_hash := ok_is_hash W c_is_ascending
  have c__law_head_of := ok__law_head_of W c__law_is_name
  have c__law_hole_of := ok__law_hole_of W c__law_is_name
  have c_are_slots := ok_are_slots W c_is_slot
  have c_is_class := ok_is_class W c_are_slots c_is_hash
  have c_are_named := ok_are_named W c_is_name
  have c_Schema___init__ := ok_Schema___init__ W c_are_named c_is_class
  have c_Schema___eq__ := ok_Schema___eq__ W
  have c_read_schema := ok_read_schema W c_Schema___init__ c_read_head c_read_slot c_split_text
  have c__law_is_hole := ok__law_is_hole W c__law_is_name
  have c__law_is_sheet := ok__law_is_sheet W c__law_is_hole
  have c__law_sheets_due := ok__law_sheets_due W c__law_is_name c__law_is_sheet
  have c__law_read_sheets := ok__law_read_sheets W c__law_head_of c__law_hole_of c__law_sheets_due
  have c__law_pick := ok__law_pick W c__law_draw
  have c__law_labels := ok__law_labels W c__law_draw c__law_pick
  have c__law_hole := ok__law_hole W c__law_draw c__law_pick
  have c__law_sheet := ok__law_sheet W c__law_draw c__law_hole c__law_labels
  have c__law_sheets := ok__law_sheets W c__law_draw c__law_labels c__law_sheet
  have c__law_sheet_lines := ok__law_sheet_lines W
  have c__law_schema_lines := ok__law_schema_lines W c__law_sheet_lines
  have c__law_page := ok__law_page W
  have c__law_smudged := ok__law_smudged W c__law_draw c__law_pick
  exact ⟨c_Schema___eq__, c_Schema___init__, c__law_draw, c__law_page, c__law_read_sheets, c__law_schema_lines, c__law_sheets, c__law_smudged, c_read_schema⟩
theorem law_runs {cc tb fa a : Addr} {s₁ : Shared} {ns : List Int} (W : ∀ base, Wr c P w K mg base) (TF : TellF K mg c.BuildError c.BadText c.BadSchema c.BadGraph) (hi : mg "int" = none) (hab : mg "abs" = none) (hfa : mg "law" = some (.ref fa)) (hcc : ∀ f fd, Fun K "law" "law" s_law f fd → mg "law" = some (.ref f) → fd.code = .ref cc) (hl : ns.length ≤ 63) :
    RunsAt P w K mg [(cc, tb)] fa a s₁ ns := by
  intro base H F hK gl TB hT exF hFn hFt sq env
  have W' := W base
  obtain ⟨c1, c2, c3, c4, c5, c6, c7, c8, c9⟩ := law_calls W' hi
  obtain ⟨fs, fds, FS, ms, kps, bs⟩ := ok__law_state W' hab
  obtain ⟨f, fd, Fl, hm, kp, b⟩ := W'.d_law
  have e := hfa.symm.trans hm
  cases e
  have hcode := hcc fa fd Fl hm
  obtain ⟨oc, od, kV, doc, pm, an, cdv, ct, osl, rfl, lk, hcd⟩ := Fl.ex
  have hc2 : cdv = .ref cc := hcode
  have ht : H tb = some (.tbl #[]) := hT (cc, tb) (by simp)
  have hf : F tb = none := hFn (cc, tb) (by simp)
  refine LamX.run_ofS (k := 12) (N := n_law) (ps := ["script"]) (us := [.ref a]) (vs := [.ref a]) lk hcd sc_law ⟨rfl, by decide, by decide⟩ env (b s₁ [.ref a] (env.mod.kin.keeps fun b o e => (env.bs b o e).1) rfl) (.cons rfl .nil) rfl fun hr => ?_
  refine ⟨_, pss_cons (ps_set (i := 1) sc_law.nd rfl (Or.inl rfl) (pe_call FS (hr.mono (by decide)) (by exact rfl) ms kps bs .nil passE (pa_cons (pe_var (i := 0) rfl (Or.inl rfl)) pa_nil)))
    (ds_law (E := fun _ _ _ => False) W' c1 c2 c3 c4 c5 c6 c7 c8 c9 TF (TB (cc, tb) (by simp)) hc2 rfl hr), ?_⟩
  refine ⟨.ref a, rfl, F, .ref a, ns, rfl, ⟨Ex.rf _, exF, fun _ _ e _ => e, fun _ _ e => .inl e, trivial, (fun p hp => by cases hp), (fun _ hx => nomatch hx), Tb.nil hFt⟩, .lsq sq RpL.ofInts, fun F' H' a1 b1 is g h1 h2 ne f1 f2 z1 z2 i1 i2 i3 => ?_⟩
  have S := sat_law (K := K) (σ := (L2.start n_law [V.ref a]).set 1 (some (.ref a1))) (S := .lsq (ns.map D.int)) (v0 := .ref a) g h1 h2 ne f1 f2 z1 z2 i1 i2 i3 ht hf (by simp [L2.start]) rfl rfl (.lsq (exL g.f0 sq) RpL.ofInts)
  refine ⟨_, F', _, kd0 (fun d => d = .bl true) (fun _ _ => False), S, vc_law (by simpa using hl) rfl, ⟨fun _ _ _ _ q => ?_, fun _ _ _ _ q => (show False from q).elim, fun _ _ _ _ q => (show False from q).elim, fun d ρ' F2 σ' v H2 q _ _ r => ?_⟩, fun _ _ _ _ _ q => (show False from q).elim⟩
  · have q' : D.non = D.bl true := q
    cases q'
  · have q' : d = D.bl true := q
    cases q'
    cases r
    rfl
end
end DL
namespace DL
open PySem PySem.Spec PyProof.Rows L2
abbrev R : PySem.W.OpenRow := PySem.W.OpenLaw.row PySem.Challenge.rw_halfbuilt_k77_texts_of_schemas_changed
def hFn0 : List He.DefD := [⟨("is_name", none), "is_name", "is_name", defArgs s_is_name, defBody s_is_name, defScope s_is_name, [], []⟩, ⟨("_law_is_name", none), "_law_is_name", "_law_is_name", defArgs s__law_is_name, defBody s__law_is_name, defScope s__law_is_name, [], []⟩, ⟨("read_head", none), "read_head", "read_head", defArgs s_read_head, defBody s_read_head, defScope s_read_head, [], []⟩, ⟨("read_slot", none), "read_slot", "read_slot", defArgs s_read_slot, defBody s_read_slot, defScope s_read_slot, [], []⟩, ⟨("split_text", none), "split_text", "split_text", defArgs s_split_text, defBody s_split_text, defScope s_split_text, [], []⟩, ⟨("is_ascending", none), "is_ascending", "is_ascending", defArgs s_is_ascending, defBody s_is_ascending, defScope s_is_ascending, [], []⟩, ⟨("is_slot", none), "is_slot", "is_slot", defArgs s_is_slot, defBody s_is_slot, defScope s_is_slot, [], []⟩, ⟨("is_hash", none), "is_hash", "is_hash", defArgs s_is_hash, defBody s_is_hash, defScope s_is_hash, [], []⟩, ⟨("_law_head_of", none), "_law_head_of", "_law_head_of", defArgs s__law_head_of, defBody s__law_head_of, defScope s__law_head_of, [], []⟩, ⟨("_law_hole_of", none), "_law_hole_of", "_law_hole_of", defArgs s__law_hole_of, defBody s__law_hole_of, defScope s__law_hole_of, [], []⟩, ⟨("are_slots", none), "are_slots", "are_slots", defArgs s_are_slots, defBody s_are_slots, defScope s_are_slots, [], []⟩, ⟨("is_class", none), "is_class", "is_class", defArgs s_is_class, defBody s_is_class, defScope s_is_class, [], []⟩, ⟨("are_named", none), "are_named", "are_named", defArgs s_are_named, defBody s_are_named, defScope s_are_named, [], []⟩, ⟨("Schema", some "__init__"), "__init__", "Schema.__init__", defArgs s_Schema___init__, defBody s_Schema___init__, defScope s_Schema___init__, [], []⟩, ⟨("Schema", some "__eq__"), "__eq__", "Schema.__eq__", defArgs s_Schema___eq__, defBody s_Schema___eq__, defScope s_Schema___eq__, [], []⟩]
def hFn1 : List He.DefD := [⟨("read_schema", none), "read_schema", "read_schema", defArgs s_read_schema, defBody s_read_schema, defScope s_read_schema, [], []⟩, ⟨("_law_is_hole", none), "_law_is_hole", "_law_is_hole", defArgs s__law_is_hole, defBody s__law_is_hole, defScope s__law_is_hole, [], []⟩, ⟨("_law_is_sheet", none), "_law_is_sheet", "_law_is_sheet", defArgs s__law_is_sheet, defBody s__law_is_sheet, defScope s__law_is_sheet, [], []⟩, ⟨("_law_sheets_due", none), "_law_sheets_due", "_law_sheets_due", defArgs s__law_sheets_due, defBody s__law_sheets_due, defScope s__law_sheets_due, [], []⟩, ⟨("_law_read_sheets", none), "_law_read_sheets", "_law_read_sheets", defArgs s__law_read_sheets, defBody s__law_read_sheets, defScope s__law_read_sheets, [], []⟩, ⟨("_law_draw", none), "_law_draw", "_law_draw", defArgs s__law_draw, defBody s__law_draw, defScope s__law_draw, [], []⟩, ⟨("_law_pick", none), "_law_pick", "_law_pick", defArgs s__law_pick, defBody s__law_pick, defScope s__law_pick, [], []⟩, ⟨("_law_labels", none), "_law_labels", "_law_labels", defArgs s__law_labels, defBody s__law_labels, defScope s__law_labels, [], []⟩, ⟨("_law_hole", none), "_law_hole", "_law_hole", defArgs s__law_hole, defBody s__law_hole, defScope s__law_hole, [], []⟩, ⟨("_law_sheet", none), "_law_sheet", "_law_sheet", defArgs s__law_sheet, defBody s__law_sheet, defScope s__law_sheet, [], []⟩, ⟨("_law_sheets", none), "_law_sheets", "_law_sheets", defArgs s__law_sheets, defBody s__law_sheets, defScope s__law_sheets, [], []⟩, ⟨("_law_sheet_lines", none), "_law_sheet_lines", "_law_sheet_lines", defArgs s__law_sheet_lines, defBody s__law_sheet_lines, defScope s__law_sheet_lines, [], []⟩, ⟨("_law_schema_lines", none), "_law_schema_lines", "_law_schema_lines", defArgs s__law_schema_lines, defBody s__law_schema_lines, defScope s__law_schema_lines, [], []⟩, ⟨("_law_page", none), "_law_page", "_law_page", defArgs s__law_page, defBody s__law_page, defScope s__law_page, [], []⟩, ⟨("_law_smudged", none), "_law_smudged", "_law_smudged", defArgs s__law_smudged, defBody s__law_smudged, defScope s__law_smudged, [], []⟩]
def hFn2 : List He.DefD := [⟨("_law_state", none), "_law_state", "_law_state", defArgs s__law_state, defBody s__law_state, defScope s__law_state, [], []⟩, ⟨("_law_text_told", none), "_law_text_told", "_law_text_told", defArgs s__law_text_told, defBody s__law_text_told, defScope s__law_text_told, [], []⟩, ⟨("law", none), "law", "law", defArgs s_law, defBody s_law, defScope s_law, [], []⟩]
def hFn : List He.DefD := hFn0 ++ hFn1 ++ hFn2
def hFa0 : List He.Fa := [.glo "is_name", .glo "_law_is_name", .glo "read_head", .glo "read_slot", .glo "split_text", .glo "is_ascending", .glo "is_slot", .glo "is_hash", .glo "_law_head_of", .glo "_law_hole_of", .glo "are_slots", .glo "is_class", .glo "are_named", .mkr "Schema", .glo "Schema"]
def hFa1 : List He.Fa := [.glo "read_schema", .glo "_law_is_hole", .glo "_law_is_sheet", .glo "_law_sheets_due", .glo "_law_read_sheets", .glo "_law_draw", .glo "_law_pick", .glo "_law_labels", .glo "_law_hole", .glo "_law_sheet", .glo "_law_sheets", .glo "_law_sheet_lines", .glo "_law_schema_lines", .glo "_law_page", .glo "_law_smudged"]
def hFa2 : List He.Fa := [.glo "_law_state", .glo "_law_text_told", .glo "law", .cls "Schema", .noat "Schema" "s_classes", .glo "BadSchema", .free "super", .glo "BadText", .str "ANY_NUMBER" "#", .glo "FORMS", .str "LETTERS" "abcdefghijklmnopqrstuvwxyz", .str "MARGIN" "  ", .int "MOST_CLASSES" 4, .int "MOST_LETTERS" 6, .int "MOST_SLOTS" 4]
def hFa3 : List He.Fa := [.str "NUMBERS" "", .str "OWN" "own", .glo "WHENS", .free "all", .free "enumerate", .free "isinstance", .free "len", .free "list", .free "min", .free "range", .free "repr", .free "set", .free "sorted", .free "str", .free "tuple"]
def hFa4 : List He.Fa := [.free "zip", .glo "BuildError", .glo "BadGraph", .free "int", .free "abs"]
def hFa : List He.Fa := hFa0 ++ hFa1 ++ hFa2 ++ hFa3 ++ hFa4
def hExs : List (PySem.W.Frag → Bool) := [fun K => eqCB K (He.ga K "Schema") (He.ma K (He.ga K "Schema") "__eq__"), fun K => ciB K (He.ga K "Schema"), errB R.prog.main.file "BadSchema" "name", errB R.prog.main.file "BadText" "row", fun K => He.tupB K "FORMS" [.str "one", .str "row", .str "set"], fun K => He.tupB K "WHENS" [.str "first", .str "later"], tellB]
def hEx (K : PySem.W.Frag) : Bool := hExs.all fun e => e K
abbrev hk : PySem.W.Hook := hookY 6 hFa hFn [("law", none)] hEx
def hOb (s : PySem.W.SharedT) : He.AlX := obsY 6 hFa hFn [("law", none)] hEx (HandSHeadRun.getT s)
theorem hOb_eq (s : PySem.W.SharedT) : hOb s = hk.obs s.abs := obsY_eq (HandSHeadRun.getT_eq s)
theorem top_super : (R.prog.main.scope.names.lookup ("super" : Str)).isSome = false := by kernel_rfl
def hLo0 : List PySem.Str := ["_wall", "__name__", "BuildError", "BadSchema", "BadGraph", "NoName", "BadText", "LETTERS", "MOST_LETTERS", "MOST_CLASSES", "MOST_SLOTS", "NUMBERS", "OWN", "FIRST", "LATER", "WHENS", "ONE", "ROW", "SET", "FORMS", "is_name", "is_ascending", "is_slot", "are_slots", "is_hash", "is_class", "are_named", "Schema", "ANY_NUMBER", "MARGIN"]
def hLo1 : List PySem.Str := ["read_head", "read_slot", "split_text", "read_schema", "_law_state", "_law_draw", "_law_pick", "_law_labels", "_law_hole", "_law_sheet", "_law_sheets", "_law_is_name", "_law_is_hole", "_law_is_sheet", "_law_sheets_due", "_law_sheet_lines", "_law_page", "_law_schema_lines", "_law_head_of", "_law_hole_of", "_law_read_sheets", "_law_text_told", "_law_smudged"]
def hLo : List PySem.Str := hLo0 ++ hLo1
theorem hRun (w : World) : HandSHeadRun.RunEq R (PySem.W.view R.prog [56]) hk hOb 20000 hLo w := by
  intro os
  kernel_rfl
def hCa (K : PySem.W.Frag) : Ca := ⟨He.ga K "BuildError", He.ga K "BadSchema", He.ga K "BadGraph", He.ga K "NoName", He.ga K "BadText", He.ga K "Schema"⟩
section
variable {w w' : World} {K : PySem.W.Frag} {h base : Heap} {mg : Str → Option Value}
theorem hEx_at (c : He.SaysX hFa hFn [] [("law", none)] hEx w h K) (i : Nat) {e : PySem.W.Frag → Bool} (z : hExs[i]? = some e) : e K = true := List.all_eq_true.mp c.more e (List.mem_of_getElem? z)

theorem hWr (X : K.In h) (G : h.Ns mainGlobals mg) (c : He.SaysX hFa hFn [] [("law", none)] hEx w h K) : Wr (hCa K) R.prog w' K mg base := by
  refine ⟨?_, ?_, ?_, ?_, ?_, ?_, ?_, ?_, ?_, ?_, ?_, ?_, ?_, ?_, ?_, ?_, ?_, ?_, ?_, ?_, ?_, ?_, ?_, ?_, ?_, ?_, ?_, ?_, ?_, ?_, ?_, ?_, ?_, ?_, ?_, ?_, ?_, ?_, ?_, ?_, ?_, ?_, ?_, ?_, ?_, ?_, ?_, ?_, ?_, ?_, ?_, ?_, ?_, ?_, ?_, ?_, ?_, ?_, ?_, ?_, ?_, ?_⟩
  · exact DefP.of (c.t.d.def_ 0 rfl) (He.glo_ok X G (c.t.d.fact 0 (f := .glo "is_name") rfl)) (fun _ _ _ _ _ _ us hl => match us, hl with | [_], _ => rfl)
  · exact DefP.of (c.t.d.def_ 1 rfl) (He.glo_ok X G (c.t.d.fact 1 (f := .glo "_law_is_name") rfl)) (fun _ _ _ _ _ _ us hl => match us, hl with | [_], _ => rfl)
  · exact DefP.of (c.t.d.def_ 2 rfl) (He.glo_ok X G (c.t.d.fact 2 (f := .glo "read_head") rfl)) (fun _ _ _ _ _ _ us hl => match us, hl with | [_], _ => rfl)
  · exact DefP.of (c.t.d.def_ 3 rfl) (He.glo_ok X G (c.t.d.fact 3 (f := .glo "read_slot") rfl)) (fun _ _ _ _ _ _ us hl => match us, hl with | [_], _ => rfl)
  · exact DefP.of (c.t.d.def_ 4 rfl) (He.glo_ok X G (c.t.d.fact 4 (f := .glo "split_text") rfl)) (fun _ _ _ _ _ _ us hl => match us, hl with | [_], _ => rfl)
  · exact DefP.of (c.t.d.def_ 5 rfl) (He.glo_ok X G (c.t.d.fact 5 (f := .glo "is_ascending") rfl)) (fun _ _ _ _ _ _ us hl => match us, hl with | [_], _ => rfl)
  · exact DefP.of (c.t.d.def_ 6 rfl) (He.glo_ok X G (c.t.d.fact 6 (f := .glo "is_slot") rfl)) (fun _ _ _ _ _ _ us hl => match us, hl with | [_, _], _ => rfl)
  · exact DefP.of (c.t.d.def_ 7 rfl) (He.glo_ok X G (c.t.d.fact 7 (f := .glo "is_hash") rfl)) (fun _ _ _ _ _ _ us hl => match us, hl with | [_, _], _ => rfl)
  · exact DefP.of (c.t.d.def_ 8 rfl) (He.glo_ok X G (c.t.d.fact 8 (f := .glo "_law_head_of") rfl)) (fun _ _ _ _ _ _ us hl => match us, hl with | [_], _ => rfl)
  · exact DefP.of (c.t.d.def_ 9 rfl) (He.glo_ok X G (c.t.d.fact 9 (f := .glo "_law_hole_of") rfl)) (fun _ _ _ _ _ _ us hl => match us, hl with | [_], _ => rfl)
  · exact DefP.of (c.t.d.def_ 10 rfl) (He.glo_ok X G (c.t.d.fact 10 (f := .glo "are_slots") rfl)) (fun _ _ _ _ _ _ us hl => match us, hl with | [_, _], _ => rfl)
  · exact DefP.of (c.t.d.def_ 11 rfl) (He.glo_ok X G (c.t.d.fact 11 (f := .glo "is_class") rfl)) (fun _ _ _ _ _ _ us hl => match us, hl with | [_, _], _ => rfl)
  · exact DefP.of (c.t.d.def_ 12 rfl) (He.glo_ok X G (c.t.d.fact 12 (f := .glo "are_named") rfl)) (fun _ _ _ _ _ _ us hl => match us, hl with | [_], _ => rfl)
  · obtain ⟨fd, F⟩ := c.t.d.def_ 13 rfl
    exact ⟨_, fd, He.mkr_ok (c.t.d.fact 13 (f := .mkr "Schema") rfl), Fun.ofD F, (He.glo_ok X G (c.t.d.fact 14 (f := .glo "Schema") rfl)), FunD.bindsN (ps := p_Schema___init__) F (fun _ _ _ _ _ _ us hl => match us, hl with | [_, _], _ => rfl)⟩
  · obtain ⟨fd, F⟩ := c.t.d.def_ 14 rfl
    exact ⟨_, fd, eqCB_ok (hEx_at c 0 (e := fun K => eqCB K (He.ga K "Schema") (He.ma K (He.ga K "Schema") "__eq__")) rfl), Fun.ofD F, FunD.bindsN (ps := p_Schema___eq__) F (fun _ _ _ _ _ _ us hl => match us, hl with | [_, _], _ => rfl)⟩
  · exact DefP.of (c.t.d.def_ 15 rfl) (He.glo_ok X G (c.t.d.fact 15 (f := .glo "read_schema") rfl)) (fun _ _ _ _ _ _ us hl => match us, hl with | [_], _ => rfl)
  · exact DefP.of (c.t.d.def_ 16 rfl) (He.glo_ok X G (c.t.d.fact 16 (f := .glo "_law_is_hole") rfl)) (fun _ _ _ _ _ _ us hl => match us, hl with | [_, _], _ => rfl)
  · exact DefP.of (c.t.d.def_ 17 rfl) (He.glo_ok X G (c.t.d.fact 17 (f := .glo "_law_is_sheet") rfl)) (fun _ _ _ _ _ _ us hl => match us, hl with | [_, _], _ => rfl)
  · exact DefP.of (c.t.d.def_ 18 rfl) (He.glo_ok X G (c.t.d.fact 18 (f := .glo "_law_sheets_due") rfl)) (fun _ _ _ _ _ _ us hl => match us, hl with | [_], _ => rfl)
  · exact DefP.of (c.t.d.def_ 19 rfl) (He.glo_ok X G (c.t.d.fact 19 (f := .glo "_law_read_sheets") rfl)) (fun _ _ _ _ _ _ us hl => match us, hl with | [_], _ => rfl)
  · exact DefP.of (c.t.d.def_ 20 rfl) (He.glo_ok X G (c.t.d.fact 20 (f := .glo "_law_draw") rfl)) (fun _ _ _ _ _ _ us hl => match us, hl with | [_, _], _ => rfl)
  · exact DefP.of (c.t.d.def_ 21 rfl) (He.glo_ok X G (c.t.d.fact 21 (f := .glo "_law_pick") rfl)) (fun _ _ _ _ _ _ us hl => match us, hl with | [_, _], _ => rfl)
  · exact DefP.of (c.t.d.def_ 22 rfl) (He.glo_ok X G (c.t.d.fact 22 (f := .glo "_law_labels") rfl)) (fun _ _ _ _ _ _ us hl => match us, hl with | [_, _], _ => rfl)
  · exact DefP.of (c.t.d.def_ 23 rfl) (He.glo_ok X G (c.t.d.fact 23 (f := .glo "_law_hole") rfl)) (fun _ _ _ _ _ _ us hl => match us, hl with | [_, _, _], _ => rfl)
  · exact DefP.of (c.t.d.def_ 24 rfl) (He.glo_ok X G (c.t.d.fact 24 (f := .glo "_law_sheet") rfl)) (fun _ _ _ _ _ _ us hl => match us, hl with | [_, _, _, _], _ => rfl)
  · exact DefP.of (c.t.d.def_ 25 rfl) (He.glo_ok X G (c.t.d.fact 25 (f := .glo "_law_sheets") rfl)) (fun _ _ _ _ _ _ us hl => match us, hl with | [_, _, _], _ => rfl)
  · exact DefP.of (c.t.d.def_ 26 rfl) (He.glo_ok X G (c.t.d.fact 26 (f := .glo "_law_sheet_lines") rfl)) (fun _ _ _ _ _ _ us hl => match us, hl with | [_], _ => rfl)
  · exact DefP.of (c.t.d.def_ 27 rfl) (He.glo_ok X G (c.t.d.fact 27 (f := .glo "_law_schema_lines") rfl)) (fun _ _ _ _ _ _ us hl => match us, hl with | [_], _ => rfl)
  · exact DefP.of (c.t.d.def_ 28 rfl) (He.glo_ok X G (c.t.d.fact 28 (f := .glo "_law_page") rfl)) (fun _ _ _ _ _ _ us hl => match us, hl with | [_], _ => rfl)
  · exact DefP.of (c.t.d.def_ 29 rfl) (He.glo_ok X G (c.t.d.fact 29 (f := .glo "_law_smudged") rfl)) (fun _ _ _ _ _ _ us hl => match us, hl with | [_, _], _ => rfl)
  · exact DefP.of (c.t.d.def_ 30 rfl) (He.glo_ok X G (c.t.d.fact 30 (f := .glo "_law_state") rfl)) (fun _ _ _ _ _ _ us hl => match us, hl with | [_], _ => rfl)
  · exact DefP.of (c.t.d.def_ 31 rfl) (He.glo_ok X G (c.t.d.fact 31 (f := .glo "_law_text_told") rfl)) (fun _ _ _ _ _ _ us hl => match us, hl with | [_], _ => rfl)
  · exact DefP.of (c.t.d.def_ 32 rfl) (He.glo_ok X G (c.t.d.fact 32 (f := .glo "law") rfl)) (fun _ _ _ _ _ _ us hl => match us, hl with | [_], _ => rfl)
  · exact He.cls_ok (c.t.d.fact 33 (f := .cls "Schema") rfl)
  · exact (He.glo_ok X G (c.t.d.fact 14 (f := .glo "Schema") rfl))
  · exact ciB_ok (He.cls_ok (c.t.d.fact 33 (f := .cls "Schema") rfl)) (hEx_at c 1 (e := fun K => ciB K (He.ga K "Schema")) rfl)
  · exact He.noat_ok (c.t.d.fact 34 (f := .noat "Schema" "s_classes") rfl)
  · exact errB_ok (P := R.prog) (hEx_at c 2 (e := errB R.prog.main.file "BadSchema" "name") rfl) (He.glo_ok X G (c.t.d.fact 35 (f := .glo "BadSchema") rfl)) (He.free_ok X G (c.t.d.fact 36 (f := .free "super") rfl)) top_super (by decide)
  · exact errB_ok (P := R.prog) (hEx_at c 3 (e := errB R.prog.main.file "BadText" "row") rfl) (He.glo_ok X G (c.t.d.fact 37 (f := .glo "BadText") rfl)) (He.free_ok X G (c.t.d.fact 36 (f := .free "super") rfl)) top_super (by decide)
  · exact He.str_ok X G (c.t.d.fact 38 (f := .str "ANY_NUMBER" "#") rfl)
  · exact gt_of (ss := ["one", "row", "set"]) (hEx_at c 4 (e := fun K => He.tupB K "FORMS" [.str "one", .str "row", .str "set"]) rfl) (He.glo_ok X G (c.t.d.fact 39 (f := .glo "FORMS") rfl))
  · exact He.str_ok X G (c.t.d.fact 40 (f := .str "LETTERS" "abcdefghijklmnopqrstuvwxyz") rfl)
  · exact He.str_ok X G (c.t.d.fact 41 (f := .str "MARGIN" "  ") rfl)
  · exact He.int_ok X G (c.t.d.fact 42 (f := .int "MOST_CLASSES" 4) rfl)
  · exact He.int_ok X G (c.t.d.fact 43 (f := .int "MOST_LETTERS" 6) rfl)
  · exact He.int_ok X G (c.t.d.fact 44 (f := .int "MOST_SLOTS" 4) rfl)
  · exact He.str_ok X G (c.t.d.fact 45 (f := .str "NUMBERS" "") rfl)
  · exact He.str_ok X G (c.t.d.fact 46 (f := .str "OWN" "own") rfl)
  · exact gt_of (ss := ["first", "later"]) (hEx_at c 5 (e := fun K => He.tupB K "WHENS" [.str "first", .str "later"]) rfl) (He.glo_ok X G (c.t.d.fact 47 (f := .glo "WHENS") rfl))
  · exact (He.free_ok X G (c.t.d.fact 48 (f := .free "all") rfl))
  · exact (He.free_ok X G (c.t.d.fact 49 (f := .free "enumerate") rfl))
  · exact (He.free_ok X G (c.t.d.fact 50 (f := .free "isinstance") rfl))
  · exact (He.free_ok X G (c.t.d.fact 51 (f := .free "len") rfl))
  · exact (He.free_ok X G (c.t.d.fact 52 (f := .free "list") rfl))
  · exact (He.free_ok X G (c.t.d.fact 53 (f := .free "min") rfl))
  · exact (He.free_ok X G (c.t.d.fact 54 (f := .free "range") rfl))
  · exact (He.free_ok X G (c.t.d.fact 55 (f := .free "repr") rfl))
  · exact (He.free_ok X G (c.t.d.fact 56 (f := .free "set") rfl))
  · exact (He.free_ok X G (c.t.d.fact 57 (f := .free "sorted") rfl))
  · exact (He.free_ok X G (c.t.d.fact 58 (f := .free "str") rfl))
  · exact (He.free_ok X G (c.t.d.fact 59 (f := .free "tuple") rfl))
  · exact (He.free_ok X G (c.t.d.fact 60 (f := .free "zip") rfl))
theorem hTell (X : K.In h) (G : h.Ns mainGlobals mg) (c : He.SaysX hFa hFn [] [("law", none)] hEx w h K) : TellF K mg (hCa K).BuildError (hCa K).BadText (hCa K).BadSchema (hCa K).BadGraph :=
  tellB_ok (hEx_at c 6 (e := tellB) rfl) (He.glo_ok X G (c.t.d.fact 61 (f := .glo "BuildError") rfl)) (He.glo_ok X G (c.t.d.fact 37 (f := .glo "BadText") rfl)) (He.glo_ok X G (c.t.d.fact 35 (f := .glo "BadSchema") rfl)) (He.glo_ok X G (c.t.d.fact 62 (f := .glo "BadGraph") rfl)) (He.free_ok X G (c.t.d.fact 50 (f := .free "isinstance") rfl))
theorem hInt (X : K.In h) (G : h.Ns mainGlobals mg) (c : He.SaysX hFa hFn [] [("law", none)] hEx w h K) : mg "int" = none := (He.free_ok X G (c.t.d.fact 63 (f := .free "int") rfl))
theorem hAbs (X : K.In h) (G : h.Ns mainGlobals mg) (c : He.SaysX hFa hFn [] [("law", none)] hEx w h K) : mg "abs" = none := (He.free_ok X G (c.t.d.fact 64 (f := .free "abs") rfl))
theorem hLaw (X : K.In h) (G : h.Ns mainGlobals mg) (c : He.SaysX hFa hFn [] [("law", none)] hEx w h K) : mg "law" = some (.ref (He.ga K "law")) := (He.glo_ok X G (c.t.d.fact 32 (f := .glo "law") rfl))
theorem hCode (f : Addr) (fd : FuncData) (F : Fun K "law" "law" s_law f fd) (m0 : mg "law" = some (.ref (He.ga K "law"))) (m : mg "law" = some (.ref f)) : fd.code = .ref (He.cT K ("law", none)).1 := by
  have e := m0.symm.trans m
  cases e
  obtain ⟨oc, od, kV, doc, pm, an, cdv, ct, osl, rfl, lk, hcd⟩ := F.ex
  obtain ⟨c, e⟩ := He.codeIn_ref hcd
  have z : He.codeOf K ("law", none) = c := He.codeOf_eq (p := ("law", none)) lk e
  show cdv = .ref (He.codeOf K ("law", none))
  rw [z, e]
end
end DL
open PySem PySem.W PySem.Calls PyProof.Rows
theorem PySem.Challenge.cw_halfbuilt_k77_texts_of_schemas_changed_holds : PySem.Challenge.rw_halfbuilt_k77_texts_of_schemas_changed.Holds := by
  w_on; o_law
  refine HandSHeadRun.head_any (r := OpenLaw.row PySem.Challenge.rw_halfbuilt_k77_texts_of_schemas_changed) (q := view (OpenLaw.row PySem.Challenge.rw_halfbuilt_k77_texts_of_schemas_changed).prog [56]) (H := DL.hk) (ob := DL.hOb) (M := 20000) (loose := DL.hLo) (d := HandSHeadRun.topDef (OpenLaw.row PySem.Challenge.rw_halfbuilt_k77_texts_of_schemas_changed).prog 56) (kwd := []) DL.hOb_eq
    (by kernel_rfl) (fun s => by kernel_rfl) DL.hRun (by kernel_rfl) (by kernel_rfl) (by kernel_rfl) (by rfl) (by first | assumption | decide +kernel) (by decide +kernel) ⟨rfl, rfl, rfl, rfl, rfl, by decide +kernel⟩ ?hw ?hc
  case hw => w_witness2
  case hc =>
    refine DL.walk_end (l := PySem.Challenge.rw_halfbuilt_k77_texts_of_schemas_changed) (n := 63) rfl (by decide) (by kernel_rfl) ?F
    intro w mg fa h Y G hmg0
    obtain ⟨K, X, c⟩ := Y
    have hmg : mg ("law" : PySem.Str) = some (.ref fa) := by
      have e : (HandSHeadRun.topDef (OpenLaw.row PySem.Challenge.rw_halfbuilt_k77_texts_of_schemas_changed).prog 56).name = ("law" : PySem.Str) := by kernel_rfl
      rw [← e]
      exact hmg0
    refine ⟨K, [He.cT K ("law", none)], X, fun p hp => ?_, fun p hp => ?_, fun p hp => ?_, fun a s₁ ns hl => DL.law_runs (c := DL.hCa K) (fun base => DL.hWr X G c) (DL.hTell X G c) (DL.hInt X G c) (DL.hAbs X G c) hmg (fun f fd F m => DL.hCode f fd F (DL.hLaw X G c) m) hl⟩
    · rw [List.mem_singleton.mp hp]; exact c.empty _ (by simp)
    · rw [List.mem_singleton.mp hp]; exact c.out _ (by simp)
    · rw [List.mem_singleton.mp hp]; exact PySem.W.codeHd_of_K X (c.hd _ (by simp))
