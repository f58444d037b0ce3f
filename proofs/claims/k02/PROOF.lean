import PyProof.Rows.All
import Wide.All
import OpenK.AllK
import Wide.FinOn
import KE.KStateDown
import Lean
import HandS.ForMost
import HandS.More
import HandS.WordsExc
import HandS.Defaults
import HandS.IsInst
import HandS.TupAny
import HandS.TupMul
import HandS.Head0
import HandS.Head1
import HandS.Head2
import HandS.HeadEnd
import HandS.HeadHook1
import HandS.HeadHook2
import HandS.Style
import HandS.Walk
import PySem.Challenge.RW_endlesshall_k02_letters_at_places
set_option Elab.async false
set_option linter.all false
set_option maxRecDepth 100000
set_option maxHeartbeats 4000000
set_option autoImplicit false
namespace EL
open PySem PySem.Spec PyProof.Rows L2

/-! ### heaps: what is kept -/
def Ex (H H' : Hp) : Prop := ∀ a o, H a = some o → H' a = some o
theorem Ex.refl (H : Hp) : Ex H H := fun _ _ h => h
theorem Ex.trans {H H1 H2 : Hp} (a : Ex H H1) (b : Ex H1 H2) : Ex H H2 := fun x o h => b x o (a x o h)
theorem Ex.new {H : Hp} {p : Addr} {o : HO} (h : H p = none) : Ex H (upd H p o) := fun a u e => by
  rw [upd_ne (ne_of_none e h)]; exact e
theorem Ex.mut {H H' : Hp} {p : Addr} {o : HO} (e : Ex H H') (h : H p = none) : Ex H (upd H' p o) := fun a u ha => by
  rw [upd_ne (ne_of_none ha h)]; exact e a u ha
theorem Ex.free {H H' : Hp} (e : Ex H H') {p : Addr} (h : H' p = none) : H p = none := by
  cases q : H p with
  | none => rfl
  | some o => rw [e p o q] at h; cases h

abbrev Bn := Addr → Prop
structure RB (B : Bn) (H H' : Hp) : Prop where
  keep : ∀ a o, ¬ B a → H a = some o → H' a = some o
  tup : ∀ a xs, H a = some (.tup xs) → H' a = some (.tup xs)
  frz : ∀ a o u, H a = some (.frz o u) → H' a = some (.frz o u)
  ban : ∀ a, B a → H a ≠ none → H' a ≠ none
def BOk (B : Bn) (H : Hp) : Prop := ∀ a, B a → H a ≠ none
theorem RB.refl {B : Bn} (H : Hp) : RB B H H := ⟨fun _ _ _ h => h, fun _ _ h => h, fun _ _ _ h => h, fun _ _ h => h⟩
theorem RB.trans {B : Bn} {H H1 H2 : Hp} (a : RB B H H1) (b : RB B H1 H2) : RB B H H2 :=
  ⟨fun x o n h => b.keep x o n (a.keep x o n h), fun x o h => b.tup x o (a.tup x o h), fun x o u h => b.frz x o u (a.frz x o u h), fun x n h => b.ban x n (a.ban x n h)⟩
theorem RB.of_ex {B : Bn} {H H' : Hp} (e : Ex H H') : RB B H H' := ⟨fun a o _ h => e a o h, fun a o h => e a _ h, fun a o u h => e a _ h, fun a _ h => by
  cases q : H a with
  | none => exact absurd q h
  | some o => rw [e a o q]; exact fun z => nomatch z⟩
theorem RB.sub {B B' : Bn} {H H' : Hp} (s : ∀ a, B a → B' a) (r : RB B H H') : RB B' H H' := ⟨fun a o n h => r.keep a o (fun z => n (s a z)) h, r.tup, r.frz, fun a _ h => by
  rcases Classical.em (B a) with q | q
  · exact r.ban a q h
  · cases e : H a with
    | none => exact absurd e h
    | some o => rw [r.keep a o q e]; exact fun z => nomatch z⟩
theorem BOk.mono {B : Bn} {H H' : Hp} (o : BOk B H) (r : RB B H H') : BOk B H' := fun a b => r.ban a b (o a b)
theorem BOk.none {H : Hp} : BOk (fun _ => False) H := fun _ z => z.elim
theorem RB.sqT {B : Bn} {K : PySem.W.Frag} {H H' : Hp} {a : Addr} {xs : List V} (r : RB B H H') (h : SqT K H a xs) : SqT K H' a xs := by
  rcases h with (h | ⟨o, h⟩) | h
  · exact .inl (.inl (r.tup _ _ h))
  · exact .inl (.inr ⟨o, r.frz _ _ _ h⟩)
  · exact .inr h
theorem RB.sqL {B : Bn} {K : PySem.W.Frag} {H H' : Hp} {a : Addr} {xs : List V} (r : RB B H H') (n : ¬ B a) (h : SqL K H a xs) : SqL K H' a xs := by
  rcases h with (h | ⟨o, h⟩) | h
  · exact .inl (.inl (r.keep _ _ n h))
  · exact .inl (.inr ⟨o, r.frz _ _ _ h⟩)
  · exact .inr h
theorem Ex.sqT {K : PySem.W.Frag} {H H' : Hp} {a : Addr} {xs : List V} (r : Ex H H') (h : SqT K H a xs) : SqT K H' a xs := (RB.of_ex (B := fun _ => False) r).sqT h
theorem Ex.sqL {K : PySem.W.Frag} {H H' : Hp} {a : Addr} {xs : List V} (r : Ex H H') (h : SqL K H a xs) : SqL K H' a xs := (RB.of_ex (B := fun _ => False) r).sqL (fun z => z) h
theorem sqT_of {K : PySem.W.Frag} {H : Hp} {a : Addr} {xs : List V} (h : H a = some (.tup xs)) : SqT K H a xs := .inl (.inl h)
theorem sqL_of {K : PySem.W.Frag} {H : Hp} {a : Addr} {xs : List V} (h : H a = some (.lst xs)) : SqL K H a xs := .inl (.inl h)

/-- how a piece of code may change the heap -/
class Rok (B : Bn) (R : Hp → Hp → Prop) : Prop where
  rf : ∀ H, R H H
  tr : ∀ {H H1 H2}, R H H1 → R H1 H2 → R H H2
  ex : ∀ {H H'}, Ex H H' → R H H'
  rb : ∀ {H H'}, R H H' → RB B H H'
instance {B : Bn} : Rok B Ex := ⟨Ex.refl, Ex.trans, id, RB.of_ex⟩
instance {B : Bn} : Rok B (RB B) := ⟨RB.refl, RB.trans, RB.of_ex, id⟩

/-! ### what a value is -/
abbrev PV := V → Hp → Prop
class Stb (B : Bn) (p : PV) : Prop where
  st : ∀ {H H' v}, RB B H H' → p v H → p v H'
def isP (v : V) : PV := fun x _ => x = v
instance {B : Bn} {v : V} : Stb B (isP v) := ⟨fun _ h => h⟩
def exP {α : Type} (C : α → Prop) (q : α → PV) : PV := fun v H => ∃ a, C a ∧ q a v H
instance {B : Bn} {α : Type} {C : α → Prop} {q : α → PV} [∀ a, Stb B (q a)] : Stb B (exP C q) := ⟨fun r ⟨a, c, h⟩ => ⟨a, c, Stb.st r h⟩⟩

section
variable (K : PySem.W.Frag) (B : Bn)
mutual
/-- v is the data d, whose lists are none of B -/
def im : PyData → PV
  | .none => isP .non
  | .bool b => isP (.bl b)
  | .int i => isP (.int i)
  | .str x => isP (.str x)
  | .tuple ds => fun v H => ∃ a vs, v = .ref a ∧ SqT K H a vs ∧ imAll ds vs H
  | .list ds => fun v H => ∃ a vs, v = .ref a ∧ ¬ B a ∧ SqL K H a vs ∧ imAll ds vs H
  | .dict _ => fun _ _ => False
def imAll : List PyData → List V → Hp → Prop
  | [], vs, _ => vs = []
  | d :: ds, vs, H => ∃ v r, vs = v :: r ∧ im d v H ∧ imAll ds r H
end
end
section
variable {K : PySem.W.Frag} {B : Bn} {H H' : Hp} {v : V} {d : PyData}
mutual
theorem im_st (r : RB B H H') : ∀ (d : PyData) (v : V), im K B d v H → im K B d v H'
  | .none, _, h => h
  | .bool _, _, h => h
  | .int _, _, h => h
  | .str _, _, h => h
  | .tuple ds, _, ⟨a, vs, e, s, q⟩ => ⟨a, vs, e, r.sqT s, imAll_st r ds vs q⟩
  | .list ds, _, ⟨a, vs, e, n, s, q⟩ => ⟨a, vs, e, n, r.sqL n s, imAll_st r ds vs q⟩
  | .dict _, _, h => h.elim
theorem imAll_st (r : RB B H H') : ∀ (ds : List PyData) (vs : List V), imAll K B ds vs H → imAll K B ds vs H'
  | [], _, h => h
  | d :: ds, _, ⟨v, w, e, h1, h2⟩ => ⟨v, w, e, im_st r d v h1, imAll_st r ds w h2⟩
end
instance : Stb B (im K B d) := ⟨fun r h => im_st r _ _ h⟩
theorem imAll_len : ∀ {ds : List PyData} {vs : List V}, imAll K B ds vs H → vs.length = ds.length
  | [], _, h => by rw [show _ = _ from h]; rfl
  | d :: ds, _, ⟨v, w, e, _, h2⟩ => by rw [e, List.length_cons, List.length_cons, imAll_len h2]
theorem imAll_get : ∀ {ds : List PyData} {vs : List V} {i : Nat} {d : PyData}, imAll K B ds vs H → ds[i]? = some d → ∃ v, vs[i]? = some v ∧ im K B d v H
  | [], _, _, _, _, e => by simp at e
  | d :: ds, _, 0, d', ⟨v, w, e, h1, h2⟩, e' => by
    simp at e'; subst e' e; exact ⟨v, rfl, h1⟩
  | d :: ds, _, i + 1, d', ⟨v, w, e, h1, h2⟩, e' => by
    subst e
    obtain ⟨x, e1, e2⟩ := imAll_get (i := i) h2 (by simpa using e')
    exact ⟨x, by simpa using e1, e2⟩
theorem imAll_getV : ∀ {ds : List PyData} {vs : List V} {i : Nat} {v : V}, imAll K B ds vs H → vs[i]? = some v → ∃ d, ds[i]? = some d ∧ im K B d v H
  | [], _, _, _, h, e => by rw [show _ = _ from h] at e; simp at e
  | d :: ds, _, 0, v', ⟨v, w, e, h1, h2⟩, e' => by
    subst e; simp at e'; subst e'; exact ⟨d, rfl, h1⟩
  | d :: ds, _, i + 1, v', ⟨v, w, e, h1, h2⟩, e' => by
    subst e
    obtain ⟨x, e1, e2⟩ := imAll_getV (i := i) h2 (by simpa using e')
    exact ⟨x, by simpa using e1, e2⟩
theorem imAll_append : ∀ {ds es : List PyData} {vs ws : List V}, imAll K B ds vs H → imAll K B es ws H → imAll K B (ds ++ es) (vs ++ ws) H
  | [], _, _, _, h, h' => by rw [show _ = _ from h]; exact h'
  | d :: ds, es, _, ws, ⟨v, w, e, h1, h2⟩, h' => by
    subst e; exact ⟨v, w ++ ws, rfl, h1, imAll_append h2 h'⟩
theorem imAll_snoc {ds : List PyData} {vs : List V} {d : PyData} {v : V} (h : imAll K B ds vs H) (h' : im K B d v H) : imAll K B (ds ++ [d]) (vs ++ [v]) H := imAll_append h ⟨v, [], rfl, h', rfl⟩
theorem imAll_take : ∀ {ds : List PyData} {vs : List V} (n : Nat), imAll K B ds vs H → imAll K B (ds.take n) (vs.take n) H
  | _, _, 0, _ => rfl
  | [], _, n + 1, h => by rw [show _ = _ from h]; rfl
  | d :: ds, _, n + 1, ⟨v, w, e, h1, h2⟩ => by subst e; exact ⟨v, _, rfl, h1, imAll_take n h2⟩
theorem imAll_drop : ∀ {ds : List PyData} {vs : List V} (n : Nat), imAll K B ds vs H → imAll K B (ds.drop n) (vs.drop n) H
  | _, _, 0, h => h
  | [], _, n + 1, h => by rw [show _ = _ from h]; rfl
  | d :: ds, _, n + 1, ⟨v, w, e, h1, h2⟩ => by subst e; exact imAll_drop n h2
theorem imAll_ints : ∀ {ns : List Int} {vs : List V}, imAll K B (ns.map .int) vs H ↔ vs = ns.map .int
  | [], vs => Iff.rfl
  | n :: ns, vs => by
    constructor
    · rintro ⟨v, w, e, h1, h2⟩
      rw [e, show v = .int n from h1, imAll_ints.mp h2]; rfl
    · intro e
      exact ⟨.int n, ns.map .int, e, rfl, imAll_ints.mpr rfl⟩
theorem imAll_bools : ∀ {bs : List Bool} {vs : List V}, imAll K B (bs.map .bool) vs H ↔ vs = bs.map .bl
  | [], vs => Iff.rfl
  | n :: ns, vs => by
    constructor
    · rintro ⟨v, w, e, h1, h2⟩
      rw [e, show v = .bl n from h1, imAll_bools.mp h2]; rfl
    · intro e
      exact ⟨.bl n, ns.map .bl, e, rfl, imAll_bools.mpr rfl⟩
mutual
theorem im_dp : ∀ (d : PyData) (v : V), im K B d v H → Dp K H v d
  | .none, _, h => by cases h; exact .non
  | .bool _, _, h => by cases h; exact .bl _
  | .int _, _, h => by cases h; exact .int _
  | .str _, _, h => by cases h; exact .str _
  | .tuple ds, _, ⟨a, vs, e, s, q⟩ => by subst e; exact .tup s (imAll_dp ds vs q)
  | .list ds, _, ⟨a, vs, e, n, s, q⟩ => by subst e; exact .lst s (imAll_dp ds vs q)
  | .dict _, _, h => h.elim
theorem imAll_dp : ∀ (ds : List PyData) (vs : List V), imAll K B ds vs H → DpAll K H vs ds
  | [], _, h => by rw [show _ = _ from h]; exact .nil
  | d :: ds, _, ⟨v, w, e, h1, h2⟩ => by subst e; exact .cons (im_dp d v h1) (imAll_dp ds w h2)
end
end

/-! ### the slots -/
structure SD (B : Bn) (H : Hp) (σ : L2.St) (δ : List (Option PV)) : Prop where
  ok : BOk B H
  len : σ.length = δ.length
  at_ : ∀ (i : Nat) (p : PV), δ[i]? = some (some p) → Stb B p ∧ ∃ v, σ[i]? = some (some v) ∧ p v H
def wip (δ : List (Option PV)) : List Nat → List (Option PV)
  | [] => δ
  | v :: vs => (wip δ vs).set v none
section
variable {B : Bn} {H H' : Hp} {σ : L2.St} {δ : List (Option PV)} {p : PV} {v : V} {i : Nat}
theorem SD.mono (s : SD B H σ δ) (r : RB B H H') : SD B H' σ δ := ⟨s.ok.mono r, s.len, fun i p e => by
  obtain ⟨hp, v, h1, h2⟩ := s.at_ i p e
  exact ⟨hp, v, h1, hp.st r h2⟩⟩
theorem SD.set (s : SD B H σ δ) [hp : Stb B p] (h : p v H) : SD B H (σ.set i (some v)) (δ.set i (some p)) := by
  refine ⟨s.ok, by rw [List.length_set, List.length_set, s.len], fun j q e => ?_⟩
  by_cases hj : i = j
  · subst hj
    have hl : i < δ.length := by
      rcases Nat.lt_or_ge i δ.length with z | z
      · exact z
      · rw [List.getElem?_eq_none (by rw [List.length_set]; exact z)] at e; cases e
    rw [List.getElem?_set_self hl] at e
    cases e
    exact ⟨hp, v, List.getElem?_set_self (by rw [s.len]; exact hl), h⟩
  · rw [List.getElem?_set_ne hj] at e
    obtain ⟨hq, w, h1, h2⟩ := s.at_ j q e
    exact ⟨hq, w, by rw [List.getElem?_set_ne hj]; exact h1, h2⟩
theorem SD.unset (s : SD B H σ δ) {o : Option V} : SD B H (σ.set i o) (δ.set i none) := by
  refine ⟨s.ok, by rw [List.length_set, List.length_set, s.len], fun j q e => ?_⟩
  by_cases hj : i = j
  · subst hj
    have hl : i < δ.length := by
      rcases Nat.lt_or_ge i δ.length with z | z
      · exact z
      · rw [List.getElem?_eq_none (by rw [List.length_set]; exact z)] at e; cases e
    rw [List.getElem?_set_self hl] at e
    cases e
  · rw [List.getElem?_set_ne hj] at e
    obtain ⟨hq, w, h1, h2⟩ := s.at_ j q e
    exact ⟨hq, w, by rw [List.getElem?_set_ne hj]; exact h1, h2⟩
theorem SD.wipe (s : SD B H σ δ) : ∀ vs : List Nat, SD B H (wipe σ vs) (wip δ vs)
  | [] => s
  | v :: vs => (SD.wipe s vs).unset
/-- the slots known by another list -/
def Weak : List (Option PV) → List (Option PV) → Prop
  | [], [] => True
  | _ :: a, none :: b => Weak a b
  | x :: a, y :: b => x = y ∧ Weak a b
  | _, _ => False
theorem Weak.len : ∀ {a b : List (Option PV)}, Weak a b → a.length = b.length
  | [], [], _ => rfl
  | _ :: a, none :: b, h => by rw [List.length_cons, List.length_cons, Weak.len (a := a) (b := b) h]
  | _ :: a, some _ :: b, h => by rw [List.length_cons, List.length_cons, Weak.len (a := a) (b := b) h.2]
  | [], _ :: _, h => h.elim
  | _ :: _, [], h => by cases h
theorem Weak.get : ∀ {a b : List (Option PV)} {i : Nat} {p : PV}, Weak a b → b[i]? = some (some p) → a[i]? = some (some p)
  | [], [], _, _, _, e => by simp at e
  | x :: a, none :: b, 0, p, _, e => by simp at e
  | x :: a, none :: b, i + 1, p, h, e => by
    have := Weak.get (a := a) (b := b) (i := i) (p := p) h (by simpa using e)
    simpa using this
  | x :: a, some y :: b, 0, p, h, e => by
    have e1 : y = p := by simpa using e
    rw [show x = some y from h.1, e1]; rfl
  | x :: a, some y :: b, i + 1, p, h, e => by
    have := Weak.get (a := a) (b := b) (i := i) (p := p) h.2 (by simpa using e)
    simpa using this
  | [], _ :: _, _, _, h, _ => h.elim
  | _ :: _, [], _, _, h, _ => by cases h
theorem SD.weak {δ' : List (Option PV)} (s : SD B H σ δ) (w : Weak δ δ') : SD B H σ δ' := ⟨s.ok, s.len.trans w.len, fun i p e => s.at_ i p (w.get e)⟩
/-- a slot's fact -/
theorem SD.get (s : SD B H σ δ) (e : δ[i]? = some (some p)) : ∃ v, σ[i]? = some (some v) ∧ p v H := (s.at_ i p e).2
end

/-! ### expressions -/
section
variable (R : Hp → Hp → Prop) (B : Bn)
def Ev (te : TE) (δ : List (Option PV)) (H : Hp) (p : PV) : Prop := ∀ σ H1, R H H1 → SD B H1 σ δ → ∀ Q : VK, (∀ v H2, R H1 H2 → p v H2 → Q v H2) → te σ H1 Q
def EvT (tt : TT) (δ : List (Option PV)) (H : Hp) (b : Bool) : Prop := ∀ σ H1, R H H1 → SD B H1 σ δ → ∀ Q : Bool → Hp → Prop, (∀ H2, R H1 H2 → Q b H2) → tt σ H1 Q
/-- a test whose answer is open -/
def EvTx (tt : TT) (δ : List (Option PV)) (H : Hp) (C : Bool → Prop) : Prop := ∀ σ H1, R H H1 → SD B H1 σ δ → ∀ Q : Bool → Hp → Prop, (∀ b H2, C b → R H1 H2 → Q b H2) → tt σ H1 Q
def pAll : List PV → List V → Hp → Prop
  | [], vs, _ => vs = []
  | p :: ps, vs, H => ∃ v r, vs = v :: r ∧ p v H ∧ pAll ps r H
def EvA (ta : TA) (δ : List (Option PV)) (H : Hp) (ps : List PV) : Prop := ∀ σ H1, R H H1 → SD B H1 σ δ → ∀ Q : List V → Hp → Prop, (∀ vs H2, R H1 H2 → pAll ps vs H2 → Q vs H2) → ta σ H1 Q
def EvO (to : TO) (δ : List (Option PV)) (H : Hp) (o : Option Int) : Prop := ∀ σ H1, R H H1 → SD B H1 σ δ → ∀ Q : Option Int → Hp → Prop, (∀ H2, R H1 H2 → Q o H2) → to σ H1 Q
/-- an operation on values -/
def RV (r : R2) (x y : V) (H : Hp) (p : PV) : Prop := ∀ Q : VK, (∀ v H2, Ex H H2 → p v H2 → Q v H2) → r x y H Q
def RC (r : List V → Hp → VK → Prop) (vs : List V) (H : Hp) (p : PV) : Prop := ∀ Q : VK, (∀ v H2, R H H2 → p v H2 → Q v H2) → r vs H Q
end
end EL

set_option Elab.async false
set_option linter.all false
set_option maxRecDepth 100000
set_option maxHeartbeats 4000000
set_option autoImplicit false
namespace EL
open PySem PySem.Spec PyProof.Rows L2
/-! ### rules of several kinds at once -/
def rOr (r r' : R2) : R2 := fun x y H Q => r x y H Q ∨ r' x y H Q
def rSlOr (r r' : V → Option Int → Option Int → Hp → VK → Prop) : V → Option Int → Option Int → Hp → VK → Prop := fun x lo hi H Q => r x lo hi H Q ∨ r' x lo hi H Q
def iOr (w w' : TI) : TI := fun σ H R => w σ H R ∨ w' σ H R
def rAddS : R2 := fun x y H Q => ∃ i j : Str, x = .str i ∧ y = .str j ∧ i.length + j.length ≤ sizeLine ∧ Q (.str (i ++ j)) H
def rAddU (K : PySem.W.Frag) : R2 := rOr (rI0 fun i j => .int (i + j)) (rOr (rCatA K) (rOr rCat rAddS))
def rMulU (K : PySem.W.Frag) : R2 := rOr (rI CMul fun i j => .int (i * j)) (rOr (rRepT K) rRep)
def rEqU (K : PySem.W.Frag) : R2 := rOr (rEqD K) rEq
def rNeU (K : PySem.W.Frag) : R2 := rOr (rNeD K) rNe
def rSlU (K : PySem.W.Frag) : V → Option Int → Option Int → Hp → VK → Prop := rSlOr (rSlL K) (rSlA K)
def iSeqU (K : PySem.W.Frag) (t : TE) : TI := iOr (iList K t) (iTup K t)
section
variable {X : Cx}
theorem op_or {f : Value → Value → Sem Value} {r r' : R2} (h : OpR X f r) (h' : OpR X f r') : OpR X f (rOr r r') := fun pins s σ H x y v u Q I rx ry q => by
  rcases q with q | q
  · exact h pins s σ H x y v u Q I rx ry q
  · exact h' pins s σ H x y v u Q I rx ry q
theorem op_addU : OpR X (binaryOp .Add) (rAddU X.K) := op_or op_add (op_or op_catA (op_or op_cat op_add_str))
theorem op_mulU : OpR X (binaryOp .Mult) (rMulU X.K) := op_or op_mul (op_or op_repT op_rep)
theorem op_eqU (hu : X.A.units + 64 < cLine) : OpR X (compareOp .Eq) (rEqU X.K) := op_or (op_eqD hu) op_eq
theorem op_neU (hu : X.A.units + 64 < cLine) : OpR X (compareOp .NotEq) (rNeU X.K) := op_or (op_neD hu) op_ne
theorem sl_seqU : SlR X (rSlU X.K) := SlR.or sl_list sl_tupA
theorem pi_or {tg l : Expr} {w w' : TI} (h : PI X tg l w) (h' : PI X tg l w') : PI X tg l (iOr w w') := ⟨fun pins s σ H R I q => by
  rcases q with q | q
  · exact h.run pins s σ H R I q
  · exact h'.run pins s σ H R I q⟩
theorem pi_seqU {tg l : Expr} {t : TE} (h : PE X l t) : PI X tg l (iSeqU X.K t) := pi_or (pi_list h) (pi_tup h)
end

/-! ### expressions by what their values are -/
section
variable {R : Hp → Hp → Prop} {B : Bn} [rk : Rok B R] {K : PySem.W.Frag} {δ : List (Option PV)} {H H' : Hp} {ta tb tc te : TE} {p q w : PV} {tt tu : TT}
theorem Ev.at_ (h : Ev R B te δ H p) (r : R H H') : Ev R B te δ H' p := fun σ H2 r2 => h σ H2 (rk.tr r r2)
theorem EvT.at_ {b : Bool} (h : EvT R B tt δ H b) (r : R H H') : EvT R B tt δ H' b := fun σ H2 r2 => h σ H2 (rk.tr r r2)
theorem Ev.conv (h : Ev R B te δ H p) (c : ∀ v H1, R H H1 → p v H1 → q v H1) : Ev R B te δ H q := fun σ H1 r S Q k => h σ H1 r S Q fun v H2 r2 pv => k v H2 r2 (c v H2 (rk.tr r r2) pv)
theorem Ev.is (h : Ev R B te δ H p) (e : p = q) : Ev R B te δ H q := e ▸ h
theorem ev_var {i : Nat} (h : δ[i]? = some (some p)) : Ev R B (tVar i) δ H p := fun σ H1 r S Q k => let ⟨v, e, pv⟩ := S.get h; ⟨v, e, k v H1 (rk.rf H1) pv⟩
theorem ev_c {v : V} : Ev R B (tC v) δ H (isP v) := fun σ H1 r S Q k => k v H1 (rk.rf H1) rfl
theorem ev_int {i : Int} : Ev R B (tC (.int i)) δ H (im K B (.int i)) := ev_c
theorem ev_bool {b : Bool} : Ev R B (tC (.bl b)) δ H (im K B (.bool b)) := ev_c
theorem ev_str {x : Str} : Ev R B (tC (.str x)) δ H (im K B (.str x)) := ev_c
theorem ev_non : Ev R B (tC .non) δ H (im K B .none) := ev_c
theorem ev_op {r : R2} [Stb B p] (ha : Ev R B ta δ H p) (hb : Ev R B tb δ H q) (hr : ∀ x y H1, R H H1 → BOk B H1 → p x H1 → q y H1 → RV r x y H1 w) : Ev R B (tOp r ta tb) δ H w :=
  fun σ H1 r1 S Q k => ha σ H1 r1 S _ fun x H2 r2 px => hb σ H2 (rk.tr r1 r2) (S.mono (rk.rb r2)) _ fun y H3 r3 qy =>
    hr x y H3 (rk.tr (rk.tr r1 r2) r3) (S.ok.mono ((rk.rb r2).trans (rk.rb r3))) (Stb.st (rk.rb r3) px) qy Q fun v H4 e4 wv => k v H4 (rk.tr (rk.tr r2 r3) (rk.ex e4)) wv
theorem ev_un {r : V → Hp → VK → Prop} (ha : Ev R B ta δ H p) (hr : ∀ x H1, R H H1 → p x H1 → ∀ Q : VK, (∀ v H2, Ex H1 H2 → w v H2 → Q v H2) → r x H1 Q) : Ev R B (tUn r ta) δ H w :=
  fun σ H1 r1 S Q k => ha σ H1 r1 S _ fun x H2 r2 px => hr x H2 (rk.tr r1 r2) px Q fun v H3 e3 wv => k v H3 (rk.tr r2 (rk.ex e3)) wv
theorem rv_I0 {g : Int → Int → V} {i j : Int} {x y : V} (hx : x = .int i) (hy : y = .int j) : RV (rI0 g) x y H (isP (g i j)) := fun Q k => ⟨i, j, hx, hy, k _ H (Ex.refl H) rfl⟩
theorem rv_I {C : Int → Int → Prop} {g : Int → Int → V} {i j : Int} {x y : V} (hx : x = .int i) (hy : y = .int j) (hc : C i j) : RV (rI C g) x y H (isP (g i j)) := fun Q k => ⟨i, j, hx, hy, hc, k _ H (Ex.refl H) rfl⟩
/-- ints -/
theorem ev_I0 {g : Int → Int → V} {i j : Int} (ha : Ev R B ta δ H (im K B (.int i))) (hb : Ev R B tb δ H (im K B (.int j))) : Ev R B (tOp (rI0 g) ta tb) δ H (isP (g i j)) := ev_op ha hb fun _ _ _ _ _ hx hy => rv_I0 hx hy
theorem ev_lt {i j : Int} (ha : Ev R B ta δ H (im K B (.int i))) (hb : Ev R B tb δ H (im K B (.int j))) : Ev R B (tOp (rI0 fun i j => .bl (decide (i < j))) ta tb) δ H (im K B (.bool (decide (i < j)))) := ev_I0 ha hb
theorem ev_le {i j : Int} (ha : Ev R B ta δ H (im K B (.int i))) (hb : Ev R B tb δ H (im K B (.int j))) : Ev R B (tOp (rI0 fun i j => .bl (decide (i ≤ j))) ta tb) δ H (im K B (.bool (decide (i ≤ j)))) := ev_I0 ha hb
theorem ev_gt {i j : Int} (ha : Ev R B ta δ H (im K B (.int i))) (hb : Ev R B tb δ H (im K B (.int j))) : Ev R B (tOp (rI0 fun i j => .bl (decide (j < i))) ta tb) δ H (im K B (.bool (decide (j < i)))) := ev_I0 ha hb
theorem ev_ge {i j : Int} (ha : Ev R B ta δ H (im K B (.int i))) (hb : Ev R B tb δ H (im K B (.int j))) : Ev R B (tOp (rI0 fun i j => .bl (decide (j ≤ i))) ta tb) δ H (im K B (.bool (decide (j ≤ i)))) := ev_I0 ha hb
theorem ev_sub {i j : Int} (ha : Ev R B ta δ H (im K B (.int i))) (hb : Ev R B tb δ H (im K B (.int j))) : Ev R B (tOp (rI0 fun i j => .int (i - j)) ta tb) δ H (im K B (.int (i - j))) := ev_I0 ha hb
theorem ev_add {i j : Int} (ha : Ev R B ta δ H (im K B (.int i))) (hb : Ev R B tb δ H (im K B (.int j))) : Ev R B (tOp (rAddU K) ta tb) δ H (im K B (.int (i + j))) :=
  ev_op ha hb fun _ _ _ _ _ hx hy Q k => .inl (rv_I0 hx hy Q k)
theorem ev_mul {i j : Int} (ha : Ev R B ta δ H (im K B (.int i))) (hb : Ev R B tb δ H (im K B (.int j))) (hc : CMul i j) : Ev R B (tOp (rMulU K) ta tb) δ H (im K B (.int (i * j))) :=
  ev_op ha hb fun _ _ _ _ _ hx hy Q k => .inl (rv_I hx hy hc Q k)
theorem ev_mod {i j : Int} (ha : Ev R B ta δ H (im K B (.int i))) (hb : Ev R B tb δ H (im K B (.int j))) (hc : j ≠ 0) : Ev R B (tOp (rI (fun _ j => j ≠ 0) fun i j => .int (i.fmod j)) ta tb) δ H (im K B (.int (i.fmod j))) :=
  ev_op ha hb fun _ _ _ _ _ hx hy => rv_I (C := fun _ j => j ≠ 0) (g := fun i j => .int (i.fmod j)) hx hy hc
theorem ev_fdiv {i j : Int} (ha : Ev R B ta δ H (im K B (.int i))) (hb : Ev R B tb δ H (im K B (.int j))) (hc : CDivN i j) : Ev R B (tOp (rI CDivN fun i j => .int (i.fdiv j)) ta tb) δ H (im K B (.int (i.fdiv j))) :=
  ev_op ha hb fun _ _ _ _ _ hx hy => rv_I (C := CDivN) (g := fun i j => .int (i.fdiv j)) hx hy hc
theorem ev_pow {i j : Int} (ha : Ev R B ta δ H (im K B (.int i))) (hb : Ev R B tb δ H (im K B (.int j))) (hc : CPow i j) : Ev R B (tOp (rI CPow fun i j => .int (i ^ j.toNat)) ta tb) δ H (im K B (.int (i ^ j.toNat))) :=
  ev_op ha hb fun _ _ _ _ _ hx hy => rv_I (C := CPow) (g := fun i j => .int (i ^ j.toNat)) hx hy hc
theorem ev_neg {i : Int} (ha : Ev R B ta δ H (im K B (.int i))) : Ev R B (tUn (rU fun i => .int (-i)) ta) δ H (im K B (.int (-i))) :=
  ev_un ha fun x H1 _ hx Q k => ⟨i, hx, k _ H1 (Ex.refl H1) rfl⟩
/-- the items of tuples, of lists -/
theorem atI_im {ds : List PyData} {vs : List V} {i : Int} {d : PyData} (h : imAll K B ds vs H) (e : atI ds i = some d) : ∃ v, atI vs i = some v ∧ im K B d v H := by
  unfold atI at e ⊢
  rw [imAll_len h]
  cases q : ixN ds.length i with
  | none => rw [q] at e; cases e
  | some j =>
    rw [q] at e
    obtain ⟨v, e1, e2⟩ := imAll_get h (show ds[j]? = some d from e)
    exact ⟨v, e1, e2⟩
theorem ev_ixT {ds : List PyData} {i : Int} {d : PyData} (ha : Ev R B ta δ H (im K B (.tuple ds))) (hb : Ev R B tb δ H (im K B (.int i))) (e : atI ds i = some d) : Ev R B (tOp (rIx K) ta tb) δ H (im K B d) :=
  ev_op ha hb fun x y H1 _ _ ⟨a, vs, hx, hs, hv⟩ hy Q k => by
    obtain ⟨v, e1, e2⟩ := atI_im hv e
    exact .inr (.inl ⟨a, vs, i, v, hx, hy, hs, e1, k v H1 (Ex.refl H1) e2⟩)
theorem ev_ixL {ds : List PyData} {i : Int} {d : PyData} (ha : Ev R B ta δ H (im K B (.list ds))) (hb : Ev R B tb δ H (im K B (.int i))) (e : atI ds i = some d) : Ev R B (tOp (rIx K) ta tb) δ H (im K B d) :=
  ev_op ha hb fun x y H1 _ _ ⟨a, vs, hx, _, hs, hv⟩ hy Q k => by
    obtain ⟨v, e1, e2⟩ := atI_im hv e
    exact .inl ⟨a, vs, i, v, hx, hy, hs, e1, k v H1 (Ex.refl H1) e2⟩
/-- arguments -/
theorem ea_nil : EvA R B tNil δ H [] := fun σ H1 r S Q k => k [] H1 (rk.rf H1) rfl
theorem ea_cons {tr : TA} {ps : List PV} [Stb B p] (h : Ev R B ta δ H p) (hr : EvA R B tr δ H ps) : EvA R B (tCons ta tr) δ H (p :: ps) := fun σ H1 r S Q k =>
  h σ H1 r S _ fun v H2 r2 pv => hr σ H2 (rk.tr r r2) (S.mono (rk.rb r2)) _ fun vs H3 r3 pr => k (v :: vs) H3 (rk.tr r2 r3) ⟨v, vs, rfl, Stb.st (rk.rb r3) pv, pr⟩
theorem ev_cb {r : List V → Hp → VK → Prop} {ta : TA} {ps : List PV} (h : EvA R B ta δ H ps) (hr : ∀ vs H1, R H H1 → BOk B H1 → pAll ps vs H1 → RC R r vs H1 w) : Ev R B (tCB r ta) δ H w := fun σ H1 r1 S Q k =>
  h σ H1 r1 S _ fun vs H2 r2 pr => hr vs H2 (rk.tr r1 r2) (S.ok.mono (rk.rb r2)) pr Q fun v H3 r3 wv => k v H3 (rk.tr r2 r3) wv
theorem imAll_of_pAll : ∀ {ds : List PyData} {vs : List V}, pAll (ds.map (im K B)) vs H → imAll K B ds vs H
  | [], _, h => h
  | d :: ds, _, ⟨v, r, e, h1, h2⟩ => ⟨v, r, e, h1, imAll_of_pAll h2⟩
theorem pAll_of_imAll : ∀ {ds : List PyData} {vs : List V}, imAll K B ds vs H → pAll (ds.map (im K B)) vs H
  | [], _, h => h
  | d :: ds, _, ⟨v, r, e, h1, h2⟩ => ⟨v, r, e, h1, pAll_of_imAll h2⟩
/-- new tuples and lists -/
theorem not_ban {p : Addr} (o : BOk B H) (h : H p = none) : ¬ B p := fun b => o p b h
theorem ev_tup {ta : TA} {ds : List PyData} (h : EvA R B ta δ H (ds.map (im K B))) (hl : ds.length ≤ sizeLine) : Ev R B (tTup ta) δ H (im K B (.tuple ds)) := fun σ H1 r1 S Q k =>
  h σ H1 r1 S _ fun vs H2 r2 pr => by
    have hv := imAll_of_pAll pr
    refine ⟨by rw [imAll_len hv]; exact hl, fun a ha => k _ _ (rk.tr r2 (rk.ex (Ex.new ha))) ⟨a, vs, rfl, sqT_of upd_same, imAll_st (RB.of_ex (Ex.new ha)) _ _ hv⟩⟩
theorem ev_lst {ta : TA} {ds : List PyData} (h : EvA R B ta δ H (ds.map (im K B))) (hl : ds.length ≤ sizeLine) : Ev R B (tLst ta) δ H (im K B (.list ds)) := fun σ H1 r1 S Q k =>
  h σ H1 r1 S _ fun vs H2 r2 pr => by
    have hv := imAll_of_pAll pr
    refine ⟨by rw [imAll_len hv]; exact hl, fun a ha => k _ _ (rk.tr r2 (rk.ex (Ex.new ha))) ⟨a, vs, rfl, not_ban (S.ok.mono (rk.rb r2)) ha, sqL_of upd_same, imAll_st (RB.of_ex (Ex.new ha)) _ _ hv⟩⟩
/-- len, tuple(..), list(..) -/
def rLenQ (K : PySem.W.Frag) : List V → Hp → VK → Prop := fun xs H Q => ∃ p ys, xs = [.ref p] ∧ (SqL K H p ys ∨ SqT K H p ys) ∧ Q (.int ys.length) H
theorem ev_lenT {ds : List PyData} (ha : Ev R B ta δ H (im K B (.tuple ds))) : Ev R B (tCB (rLenQ K) (tCons ta tNil)) δ H (im K B (.int ds.length)) :=
  ev_cb (ea_cons ha ea_nil) fun vs H1 _ _ ⟨v, r, e, ⟨a, xs, e1, s, h⟩, e2⟩ Q k => by
    subst e e1; cases (show r = [] from e2)
    exact ⟨a, xs, rfl, .inr s, k _ H1 (rk.rf H1) (by rw [imAll_len h]; rfl)⟩
theorem ev_lenL {ds : List PyData} (ha : Ev R B ta δ H (im K B (.list ds))) : Ev R B (tCB (rLenQ K) (tCons ta tNil)) δ H (im K B (.int ds.length)) :=
  ev_cb (ea_cons ha ea_nil) fun vs H1 _ _ ⟨v, r, e, ⟨a, xs, e1, _, s, h⟩, e2⟩ Q k => by
    subst e e1; cases (show r = [] from e2)
    exact ⟨a, xs, rfl, .inl s, k _ H1 (rk.rf H1) (by rw [imAll_len h]; rfl)⟩
def rTupQ (K : PySem.W.Frag) : List V → Hp → VK → Prop := fun xs H Q => ∃ p ys, xs = [.ref p] ∧ ((SqL K H p ys ∧ ∀ l, H l = none → Q (.ref l) (upd H l (.tup ys))) ∨ (SqT K H p ys ∧ Q (.ref p) H))
theorem ev_tupleL {ds : List PyData} (ha : Ev R B ta δ H (im K B (.list ds))) : Ev R B (tCB (rTupQ K) (tCons ta tNil)) δ H (im K B (.tuple ds)) :=
  ev_cb (ea_cons ha ea_nil) fun vs H1 _ _ ⟨v, r, e, ⟨a, xs, e1, _, s, h⟩, e2⟩ Q k => by
    subst e e1; cases (show r = [] from e2)
    exact ⟨a, xs, rfl, .inl ⟨s, fun l hl => k _ _ (rk.ex (Ex.new hl)) ⟨l, xs, rfl, sqT_of upd_same, imAll_st (RB.of_ex (Ex.new hl)) _ _ h⟩⟩⟩
theorem ev_tupleT {ds : List PyData} (ha : Ev R B ta δ H (im K B (.tuple ds))) : Ev R B (tCB (rTupQ K) (tCons ta tNil)) δ H (im K B (.tuple ds)) :=
  ev_cb (ea_cons ha ea_nil) fun vs H1 _ _ ⟨v, r, e, ⟨a, xs, e1, s, h⟩, e2⟩ Q k => by
    subst e e1; cases (show r = [] from e2)
    exact ⟨a, xs, rfl, .inr ⟨s, k _ H1 (rk.rf H1) ⟨a, xs, rfl, s, h⟩⟩⟩
def rListQ (K : PySem.W.Frag) : List V → Hp → VK → Prop := fun xs H Q => ∃ p ys, xs = [.ref p] ∧ (SqL K H p ys ∨ SqT K H p ys) ∧ ∀ l, H l = none → Q (.ref l) (upd H l (.lst ys))
theorem ev_listL {ds : List PyData} (ha : Ev R B ta δ H (im K B (.list ds))) : Ev R B (tCB (rListQ K) (tCons ta tNil)) δ H (im K B (.list ds)) :=
  ev_cb (ea_cons ha ea_nil) fun vs H1 _ o ⟨v, r, e, ⟨a, xs, e1, _, s, h⟩, e2⟩ Q k => by
    subst e e1; cases (show r = [] from e2)
    exact ⟨a, xs, rfl, .inl s, fun l hl => k _ _ (rk.ex (Ex.new hl)) ⟨l, xs, rfl, not_ban o hl, sqL_of upd_same, imAll_st (RB.of_ex (Ex.new hl)) _ _ h⟩⟩
theorem ev_listT {ds : List PyData} (ha : Ev R B ta δ H (im K B (.tuple ds))) : Ev R B (tCB (rListQ K) (tCons ta tNil)) δ H (im K B (.list ds)) :=
  ev_cb (ea_cons ha ea_nil) fun vs H1 _ o ⟨v, r, e, ⟨a, xs, e1, s, h⟩, e2⟩ Q k => by
    subst e e1; cases (show r = [] from e2)
    exact ⟨a, xs, rfl, .inr s, fun l hl => k _ _ (rk.ex (Ex.new hl)) ⟨l, xs, rfl, not_ban o hl, sqL_of upd_same, imAll_st (RB.of_ex (Ex.new hl)) _ _ h⟩⟩
/-- t + u -/
theorem ev_catT {ds es : List PyData} (ha : Ev R B ta δ H (im K B (.tuple ds))) (hb : Ev R B tb δ H (im K B (.tuple es))) (hl : ds.length + es.length ≤ sizeLine) : Ev R B (tOp (rAddU K) ta tb) δ H (im K B (.tuple (ds ++ es))) :=
  ev_op ha hb fun x y H1 _ _ ⟨a, vs, hx, hs, hv⟩ ⟨b, us, hy, ht, hu⟩ Q k => by
    refine .inr (.inl ⟨a, b, vs, us, hx, hy, hs, ht, by rw [imAll_len hv, imAll_len hu]; exact hl, fun e => ?_, fun _ e => ?_, fun _ _ l hn => ?_⟩)
    · subst e
      have : ds = [] := List.eq_nil_of_length_eq_zero (imAll_len hv).symm
      subst this
      exact k _ H1 (Ex.refl H1) ⟨b, us, rfl, ht, hu⟩
    · subst e
      have : es = [] := List.eq_nil_of_length_eq_zero (imAll_len hu).symm
      subst this
      exact k _ H1 (Ex.refl H1) (by rw [List.append_nil]; exact ⟨a, vs, rfl, hs, hv⟩)
    · exact k _ _ (Ex.new hn) ⟨l, vs ++ us, rfl, sqT_of upd_same, imAll_st (RB.of_ex (Ex.new hn)) _ _ (imAll_append hv hu)⟩
/-- == and != of data -/
theorem ev_eq {d e : PyData} (ha : Ev R B ta δ H (im K B d)) (hb : Ev R B tb δ H (im K B e)) (h1 : SeqAt.shaped d = true) (h2 : SeqAt.shaped e = true) : Ev R B (tOp (rEqU K) ta tb) δ H (im K B (.bool (PyData.eqv d e))) :=
  ev_op ha hb fun x y H1 _ _ hx hy Q k => .inl ⟨d, e, im_dp _ _ hx, im_dp _ _ hy, h1, h2, k _ H1 (Ex.refl H1) rfl⟩
theorem ev_ne {d e : PyData} (ha : Ev R B ta δ H (im K B d)) (hb : Ev R B tb δ H (im K B e)) (h1 : SeqAt.shaped d = true) (h2 : SeqAt.shaped e = true) : Ev R B (tOp (rNeU K) ta tb) δ H (im K B (.bool (!PyData.eqv d e))) :=
  ev_op ha hb fun x y H1 _ _ hx hy Q k => .inl ⟨d, e, im_dp _ _ hx, im_dp _ _ hy, h1, h2, k _ H1 (Ex.refl H1) rfl⟩
theorem ev_eqI {i j : Int} (ha : Ev R B ta δ H (im K B (.int i))) (hb : Ev R B tb δ H (im K B (.int j))) : Ev R B (tOp (rEqU K) ta tb) δ H (im K B (.bool (decide (i = j)))) :=
  ev_op ha hb fun x y H1 _ _ hx hy Q k => .inr ⟨by rw [show x = _ from hx, show y = _ from hy]; rfl, k _ H1 (Ex.refl H1) (by rw [show x = _ from hx, show y = _ from hy]; show V.bl _ = V.bl _; congr 1; by_cases z : i = j <;> simp [z])⟩
theorem ev_neI {i j : Int} (ha : Ev R B ta δ H (im K B (.int i))) (hb : Ev R B tb δ H (im K B (.int j))) : Ev R B (tOp (rNeU K) ta tb) δ H (im K B (.bool (!decide (i = j)))) :=
  ev_op ha hb fun x y H1 _ _ hx hy Q k => .inr ⟨by rw [show x = _ from hx, show y = _ from hy]; rfl, k _ H1 (Ex.refl H1) (by rw [show x = _ from hx, show y = _ from hy]; show V.bl _ = V.bl _; congr 1; by_cases z : i = j <;> simp [z])⟩
theorem ev_eqS {i j : Str} (ha : Ev R B ta δ H (im K B (.str i))) (hb : Ev R B tb δ H (im K B (.str j))) : Ev R B (tOp (rEqU K) ta tb) δ H (im K B (.bool (decide (i = j)))) :=
  ev_op ha hb fun x y H1 _ _ hx hy Q k => .inr ⟨by rw [show x = _ from hx, show y = _ from hy]; rfl, k _ H1 (Ex.refl H1) (by rw [show x = _ from hx, show y = _ from hy]; show V.bl _ = V.bl _; congr 1; by_cases z : i = j <;> simp [z])⟩
theorem ev_neS {i j : Str} (ha : Ev R B ta δ H (im K B (.str i))) (hb : Ev R B tb δ H (im K B (.str j))) : Ev R B (tOp (rNeU K) ta tb) δ H (im K B (.bool (!decide (i = j)))) :=
  ev_op ha hb fun x y H1 _ _ hx hy Q k => .inr ⟨by rw [show x = _ from hx, show y = _ from hy]; rfl, k _ H1 (Ex.refl H1) (by rw [show x = _ from hx, show y = _ from hy]; show V.bl _ = V.bl _; congr 1; by_cases z : i = j <;> simp [z])⟩
/-- truths -/
theorem et_test {b : Bool} (h : Ev R B te δ H (im K B (.bool b))) : EvT R B (tTest te) δ H b := fun σ H1 r S Q k => h σ H1 r S _ fun v H2 r2 e => ⟨b, e, k H2 r2⟩
theorem et_B {b : Bool} (h : Ev R B te δ H (im K B (.bool b))) : EvT R B (tB te) δ H b := fun σ H1 r S Q k => h σ H1 r S _ fun v H2 r2 e => ⟨b, e, k H2 r2⟩
theorem et_not {b : Bool} (h : EvT R B tt δ H b) : EvT R B (tNot tt) δ H (!b) := fun σ H1 r S Q k => h σ H1 r S _ fun H2 r2 => k H2 r2
theorem et_and {a b : Bool} (h1 : EvT R B tt δ H a) (h2 : a = true → EvT R B tu δ H b) : EvT R B (tAnd tt tu) δ H (a && b) := fun σ H1 r S Q k => h1 σ H1 r S _ fun H2 r2 => by
  cases a with
  | true => exact h2 rfl σ H2 (rk.tr r r2) (S.mono (rk.rb r2)) Q fun H3 r3 => k H3 (rk.tr r2 r3)
  | false => exact k H2 r2
theorem et_or {a b : Bool} (h1 : EvT R B tt δ H a) (h2 : a = false → EvT R B tu δ H b) : EvT R B (tOr tt tu) δ H (a || b) := fun σ H1 r S Q k => h1 σ H1 r S _ fun H2 r2 => by
  cases a with
  | true => exact k H2 r2
  | false => exact h2 rfl σ H2 (rk.tr r r2) (S.mono (rk.rb r2)) Q fun H3 r3 => k H3 (rk.tr r2 r3)
theorem EvT.is {a b : Bool} (h : EvT R B tt δ H a) (e : a = b) : EvT R B tt δ H b := e ▸ h
theorem ev_and {a b : Bool} (h1 : Ev R B ta δ H (im K B (.bool a))) (h2 : a = true → Ev R B tb δ H (im K B (.bool b))) : Ev R B (tAndV ta tb) δ H (im K B (.bool (a && b))) := fun σ H1 r S Q k => h1 σ H1 r S _ fun v H2 r2 e => ⟨a, e, by
  cases a with
  | true => exact h2 rfl σ H2 (rk.tr r r2) (S.mono (rk.rb r2)) Q fun v H3 r3 e => k v H3 (rk.tr r2 r3) e
  | false => exact k _ H2 r2 rfl⟩
theorem ev_or {a b : Bool} (h1 : Ev R B ta δ H (im K B (.bool a))) (h2 : a = false → Ev R B tb δ H (im K B (.bool b))) : Ev R B (tOrV ta tb) δ H (im K B (.bool (a || b))) := fun σ H1 r S Q k => h1 σ H1 r S _ fun v H2 r2 e => ⟨a, e, by
  cases a with
  | true => exact k _ H2 r2 rfl
  | false => exact h2 rfl σ H2 (rk.tr r r2) (S.mono (rk.rb r2)) Q fun v H3 r3 e => k v H3 (rk.tr r2 r3) e⟩
theorem ev_not {a : Bool} (h1 : Ev R B ta δ H (im K B (.bool a))) : Ev R B (tNotV ta) δ H (im K B (.bool (!a))) := fun σ H1 r S Q k => h1 σ H1 r S _ fun v H2 r2 e => ⟨a, e, k _ H2 r2 rfl⟩
theorem ev_if {b : Bool} (h : EvT R B tt δ H b) (h1 : b = true → Ev R B ta δ H p) (h2 : b = false → Ev R B tb δ H p) : Ev R B (tIf tt ta tb) δ H p := fun σ H1 r S Q k => h σ H1 r S _ fun H2 r2 => by
  cases b with
  | true => exact h1 rfl σ H2 (rk.tr r r2) (S.mono (rk.rb r2)) Q fun v H3 r3 pv => k v H3 (rk.tr r2 r3) pv
  | false => exact h2 rfl σ H2 (rk.tr r r2) (S.mono (rk.rb r2)) Q fun v H3 r3 pv => k v H3 (rk.tr r2 r3) pv
end

/-! ### statements -/
section
variable {R : Hp → Hp → Prop} {B : Bn} [rk : Rok B R] {K : PySem.W.Frag} {δ : List (Option PV)} {H H' : Hp} {ta tb tc te : TE} {p q w : PV} {tt tu : TT} {D : Ends} {σ : L2.St} {t u : TS} {i j l : Nat}
theorem st_seq {t1 t2 : TS} (z : t1 { D with nx := t2 D } σ H) : tSeq t1 t2 D σ H := z
theorem st_set [Stb B p] (S : SD B H σ δ) (h : Ev R B te δ H p) (k : ∀ σ' H2, R H H2 → SD B H2 σ' (δ.set i (some p)) → D.nx σ' H2) : tAsg te (gName i) D σ H :=
  h σ H (rk.rf H) S _ fun v H2 r2 pv => k _ H2 r2 ((S.mono (rk.rb r2)).set pv)
theorem st_setx {α : Type} {C : α → Prop} {q : α → PV} [∀ a, Stb B (q a)] (S : SD B H σ δ) (h : Ev R B te δ H (exP C q)) (k : ∀ a σ' H2, C a → R H H2 → SD B H2 σ' (δ.set i (some (q a))) → D.nx σ' H2) : tAsg te (gName i) D σ H :=
  h σ H (rk.rf H) S _ fun v H2 r2 ⟨a, c, pv⟩ => k a _ H2 c r2 ((S.mono (rk.rb r2)).set pv)
theorem st_if {b : Bool} (S : SD B H σ δ) (h : EvT R B tt δ H b) (k1 : b = true → ∀ H2, R H H2 → SD B H2 σ δ → t D σ H2) (k2 : b = false → ∀ H2, R H H2 → SD B H2 σ δ → u D σ H2) : tIfS tt t u D σ H :=
  h σ H (rk.rf H) S _ fun H2 r2 => by
    cases b with
    | true => exact k1 rfl H2 r2 (S.mono (rk.rb r2))
    | false => exact k2 rfl H2 r2 (S.mono (rk.rb r2))
theorem st_ret (S : SD B H σ δ) (h : Ev R B te δ H p) (k : ∀ v H2, R H H2 → p v H2 → D.rt v H2) : tRet te D σ H := h σ H (rk.rf H) S _ k
theorem st_expr (S : SD B H σ δ) (h : Ev R B te δ H p) (k : ∀ H2, R H H2 → SD B H2 σ δ → D.nx σ H2) : tDrop te D σ H := h σ H (rk.rf H) S _ fun v H2 r2 _ => k H2 r2 (S.mono (rk.rb r2))
theorem st_par {ta : TA} {p q : PV} [Stb B p] [Stb B q] (S : SD B H σ δ) (h : EvA R B ta δ H [p, q]) (k : ∀ σ' H2, R H H2 → SD B H2 σ' ((δ.set i (some p)).set j (some q)) → D.nx σ' H2) : tPar i j ta D σ H :=
  h σ H (rk.rf H) S _ fun vs H2 r2 ⟨v, r, e, pv, v2, r', e', qv, e''⟩ => ⟨v, v2, by subst e e'; cases (show r' = [] from e''); rfl, k _ H2 r2 (((S.mono (rk.rb r2)).set pv).set qv)⟩
theorem st_par3 {ta : TA} {p q w : PV} [Stb B p] [Stb B q] [Stb B w] (S : SD B H σ δ) (h : EvA R B ta δ H [p, q, w]) (k : ∀ σ' H2, R H H2 → SD B H2 σ' (((δ.set i (some p)).set j (some q)).set l (some w)) → D.nx σ' H2) : tPar3 i j l ta D σ H :=
  h σ H (rk.rf H) S _ fun vs H2 r2 ⟨v, r, e, pv, v2, r', e', qv, v3, r'', e'', wv, e3⟩ => ⟨v, v2, v3, by subst e e' e''; cases (show r'' = [] from e3); rfl, k _ H2 r2 ((((S.mono (rk.rb r2)).set pv).set qv).set wv)⟩
/-- a, b = a pair -/
theorem st_unpack2 {d e : PyData} (S : SD B H σ δ) (h : Ev R B te δ H (im K B (.tuple [d, e]))) (k : ∀ σ' H2, R H H2 → SD B H2 σ' ((δ.set i (some (im K B d))).set j (some (im K B e))) → D.nx σ' H2) :
    tAsg te (gTup K 2 (gCons (gName i) (gCons (gName j) gNil))) D σ H :=
  h σ H (rk.rf H) S _ fun v H2 r2 ⟨a, vs, ev, s, v1, r1, e1, h1, v2, r2', e2, h2, e3⟩ => by
    subst ev e1 e2; cases (show r2' = [] from e3)
    exact ⟨a, _, rfl, s, rfl, v1, _, rfl, v2, _, rfl, rfl, k _ H2 r2 (((S.mono (rk.rb r2)).set h1).set h2)⟩
end
end EL

set_option Elab.async false
set_option linter.all false
set_option maxRecDepth 100000
set_option maxHeartbeats 4000000
set_option autoImplicit false
namespace EL
open PySem PySem.Spec PyProof.Rows L2
abbrev FnP (K : PySem.W.Frag) (x : Str) (st : Stmt) (f : Addr) (fd : FuncData) : Prop := FunD K x x (defArgs st) (defBody st) (defScope st) [] [] f fd
/-- a def that only reads: the answer is the data res a -/
def pureSp {α : Type} (K : PySem.W.Frag) (args : α → List PyData) (pre : α → Prop) (res : α → PyData) : Sp := fun vs H Q _ =>
  ∃ (B : Bn) (a : α), BOk B H ∧ imAll K B (args a) vs H ∧ pre a ∧ ∀ v H', Ex H H' → im K B (res a) v H' → Q v H'
theorem pureSp.len {α : Type} {K : PySem.W.Frag} {args : α → List PyData} {pre : α → Prop} {res : α → PyData} {n : Nat} (h : ∀ a, (args a).length = n) {vs : List V} {H : Hp} {Q : VK} {E : XK} (q : pureSp K args pre res vs H Q E) : vs.length = n := by
  obtain ⟨B, a, _, h1, _⟩ := q
  rw [imAll_len h1]; exact h a
theorem SD.start {K : PySem.W.Frag} {B : Bn} {H : Hp} {N : List Str} {ds : List PyData} {vs : List V} (o : BOk B H) (h : imAll K B ds vs H) :
    SD B H (start N vs) (ds.map (fun d => some (im K B d)) ++ List.replicate (N.length - ds.length) none) := by
  have hl := imAll_len h
  refine ⟨o, ?_, fun i p e => ?_⟩
  · unfold L2.start
    rw [List.length_append, List.length_append, List.length_map, List.length_map, List.length_replicate, List.length_replicate, hl]
  · by_cases hi : i < ds.length
    · rw [List.getElem?_append_left (by rw [List.length_map]; exact hi), List.getElem?_map, List.getElem?_eq_getElem hi] at e
      have e2 : im K B ds[i] = p := by simpa using e
      obtain ⟨v, h1, h2⟩ := imAll_get h (List.getElem?_eq_getElem hi)
      subst e2
      refine ⟨inferInstance, v, ?_, h2⟩
      unfold L2.start
      rw [List.getElem?_append_left (by rw [List.length_map, hl]; exact hi), List.getElem?_map, h1]
      rfl
    · rw [List.getElem?_append_right (by rw [List.length_map]; omega), List.getElem?_replicate] at e
      split at e <;> simp at e
section
variable {R : Hp → Hp → Prop} {B : Bn} [rk : Rok B R] {K : PySem.W.Frag} {δ : List (Option PV)} {H H' : Hp}
theorem ev_call {α : Type} {args : α → List PyData} {pre : α → Prop} {res : α → PyData} {E : XK} {ta : TA} (a : α) (h : EvA R B ta δ H ((args a).map (im K B))) (hp : pre a) :
    Ev R B (tCall (pureSp K args pre res) [] E ta) δ H (im K B (res a)) := fun σ H1 r S Q k =>
  h σ H1 r S _ fun vs H2 r2 pr => by
    show pureSp K args pre res (vs ++ []) H2 Q E
    rw [List.append_nil]
    exact ⟨B, a, S.ok.mono (rk.rb r2), imAll_of_pAll pr, hp, fun v H3 e3 hv => k v H3 (rk.tr r2 (rk.ex e3)) hv⟩
end
/-! ### words -/
abbrev tI (ns : List Int) : PyData := .tuple (ns.map .int)
abbrev wd (b r : List Int) : PyData := .tuple [tI b, tI r]
def letterAt (b r : List Int) (k : Int) : Int := if k < b.length then b.getD k.toNat 0 else r.getD ((k - b.length) % r.length).toNat 0
abbrev spLetterAt (K : PySem.W.Frag) : Sp := pureSp (α := List Int × List Int × Int) K (fun a => [wd a.1 a.2.1, .int a.2.2]) (fun a => 0 ≤ a.2.2 ∧ a.2.1 ≠ []) (fun a => .int (letterAt a.1 a.2.1 a.2.2))
theorem atI_ints {ns : List Int} {i : Int} (h0 : 0 ≤ i) (h1 : i < ns.length) : atI (ns.map PyData.int) i = some (.int (ns.getD i.toNat 0)) := by
  have e : i = ((i.toNat : Nat) : Int) := by omega
  rw [e]
  refine atI_nat ?_
  have hl : i.toNat < ns.length := by omega
  rw [List.getElem?_map, List.getElem?_eq_getElem hl, Int.toNat_natCast]
  show some (PyData.int ns[i.toNat]) = _
  rw [List.getD_eq_getElem?_getD, List.getElem?_eq_getElem hl]
  rfl
end EL

set_option Elab.async false
set_option linter.all false
set_option maxRecDepth 100000
set_option maxHeartbeats 4000000
set_option autoImplicit false
namespace EL
open PySem PySem.Spec PyProof.Rows L2
/-! ### data without lists -/
mutual
def plain : PyData → Bool
  | .none => true
  | .bool _ => true
  | .int _ => true
  | .str _ => true
  | .tuple ds => plainAll ds
  | .list _ => false
  | .dict _ => false
def plainAll : List PyData → Bool
  | [] => true
  | d :: ds => plain d && plainAll ds
end
/-- tuples stay -/
structure TK (H H' : Hp) : Prop where
  tup : ∀ a xs, H a = some (.tup xs) → H' a = some (.tup xs)
  frz : ∀ a o u, H a = some (.frz o u) → H' a = some (.frz o u)
theorem RB.tk {B : Bn} {H H' : Hp} (r : RB B H H') : TK H H' := ⟨r.tup, r.frz⟩
theorem TK.sqT {K : PySem.W.Frag} {H H' : Hp} {a : Addr} {xs : List V} (r : TK H H') (h : SqT K H a xs) : SqT K H' a xs := by
  rcases h with (h | ⟨o, h⟩) | h
  · exact .inl (.inl (r.tup _ _ h))
  · exact .inl (.inr ⟨o, r.frz _ _ _ h⟩)
  · exact .inr h
theorem TK.upd {H : Hp} {a : Addr} {xs : List V} {o : HO} (h : H a = some (.lst xs)) : TK H (upd H a o) :=
  ⟨fun b ys e => by rw [upd_ne (ne_of e h (by intro z; cases z))]; exact e, fun b ob u e => by rw [upd_ne (ne_of e h (by intro z; cases z))]; exact e⟩
section
variable {K : PySem.W.Frag} {B B' : Bn} {H H' : Hp}
mutual
theorem im_tk (r : TK H H') : ∀ (d : PyData) (v : V), plain d = true → im K B d v H → im K B' d v H'
  | .none, _, _, h => h
  | .bool _, _, _, h => h
  | .int _, _, _, h => h
  | .str _, _, _, h => h
  | .tuple ds, _, hp, ⟨a, vs, e, s, q⟩ => ⟨a, vs, e, r.sqT s, imAll_tk r ds vs hp q⟩
  | .list ds, _, hp, _ => by cases hp
  | .dict _, _, _, h => h.elim
theorem imAll_tk (r : TK H H') : ∀ (ds : List PyData) (vs : List V), plainAll ds = true → imAll K B ds vs H → imAll K B' ds vs H'
  | [], _, _, h => h
  | d :: ds, _, hp, ⟨v, w, e, h1, h2⟩ => ⟨v, w, e, im_tk r d v (Bool.and_eq_true_iff.mp hp).1 h1, imAll_tk r ds w (Bool.and_eq_true_iff.mp hp).2 h2⟩
end
theorem plainAll_append : ∀ (ds es : List PyData), plainAll (ds ++ es) = (plainAll ds && plainAll es)
  | [], _ => rfl
  | d :: ds, es => by
    show (plain d && plainAll (ds ++ es)) = ((plain d && plainAll ds) && plainAll es)
    rw [plainAll_append, Bool.and_assoc]
theorem plainAll_ints : ∀ ns : List Int, plainAll (ns.map .int) = true
  | [] => rfl
  | _ :: ns => plainAll_ints ns
theorem plain_tI (ns : List Int) : plain (tI ns) = true := plainAll_ints ns
theorem plain_wd (b r : List Int) : plain (wd b r) = true := by
  show (plain (tI b) && (plain (tI r) && true)) = true
  rw [plain_tI, plain_tI]; rfl
theorem plainAll_iff : ∀ {ds : List PyData}, plainAll ds = true ↔ ∀ d ∈ ds, plain d = true
  | [] => by simp [plainAll]
  | d :: ds => by
    show (plain d && plainAll ds) = true ↔ _
    rw [Bool.and_eq_true_iff, plainAll_iff (ds := ds)]
    simp
end
/-- code that may make new objects and write to them -/
class Rmk (R : Hp → Hp → Prop) : Prop where
  new : ∀ {H H' p o}, R H H' → H p = none → R H (upd H' p o)
instance : Rmk Ex := ⟨fun r h => r.mut h⟩
instance {B : Bn} : Rmk (RB B) := ⟨fun {H H' p o} r h => ⟨fun a u n e => by rw [upd_ne (ne_of_none e h)]; exact r.keep a u n e, fun a u e => by rw [upd_ne (ne_of_none e h)]; exact r.tup a u e,
  fun a ob u e => by rw [upd_ne (ne_of_none e h)]; exact r.frz a ob u e, fun a b n => by
    by_cases q : a = p
    · subst q; exact absurd h n
    · rw [upd_ne q]; exact r.ban a b n⟩⟩

/-! ### slices -/
def cut {α : Type} (xs : List α) (lo hi : Option Int) : List α := (xs.drop (HT.sIx xs.length 0 lo)).take (HT.sIx xs.length xs.length hi - HT.sIx xs.length 0 lo)
theorem cutV_im {K : PySem.W.Frag} {B : Bn} {H : Hp} {ds : List PyData} {vs : List V} {lo hi : Option Int} (h : imAll K B ds vs H) : imAll K B (cut ds lo hi) (cutV vs lo hi) H := by
  unfold cut cutV
  rw [imAll_len h]
  exact imAll_take _ (imAll_drop _ h)
section
variable {R : Hp → Hp → Prop} {B : Bn} [rk : Rok B R] {K : PySem.W.Frag} {δ : List (Option PV)} {H : Hp} {te : TE} {tl th : TO} {lo hi : Option Int}
theorem eo_none : EvO R B tNoPart δ H none := fun σ H1 r S Q k => k H1 (rk.rf H1)
theorem eo_some {i : Int} (h : Ev R B te δ H (im K B (.int i))) : EvO R B (tPart te) δ H (some i) := fun σ H1 r S Q k => h σ H1 r S _ fun v H2 r2 e => ⟨i, e, k H2 r2⟩
theorem ev_slL {ds : List PyData} (h : Ev R B te δ H (im K B (.list ds))) (h1 : EvO R B tl δ H lo) (h2 : EvO R B th δ H hi) : Ev R B (tSl (rSlU K) te tl th) δ H (im K B (.list (cut ds lo hi))) := fun σ H1 r1 S Q k =>
  h σ H1 r1 S _ fun x Ha ra px => h1 σ Ha (rk.tr r1 ra) (S.mono (rk.rb ra)) _ fun Hb rb => h2 σ Hb (rk.tr (rk.tr r1 ra) rb) (S.mono (rk.rb (rk.tr ra rb))) _ fun Hc rc => by
    obtain ⟨a, vs, e, nb, s, q⟩ := im_st (rk.rb (rk.tr rb rc)) _ _ px
    exact .inl ⟨a, vs, e, s, fun p hp => k _ _ (rk.tr (rk.tr (rk.tr ra rb) rc) (rk.ex (Ex.new hp))) ⟨p, _, rfl, not_ban (S.ok.mono (rk.rb (rk.tr (rk.tr ra rb) rc))) hp, sqL_of upd_same, imAll_st (RB.of_ex (Ex.new hp)) _ _ (cutV_im q)⟩⟩
theorem ev_slT {ds : List PyData} (h : Ev R B te δ H (im K B (.tuple ds))) (h1 : EvO R B tl δ H lo) (h2 : EvO R B th δ H hi) : Ev R B (tSl (rSlU K) te tl th) δ H (im K B (.tuple (cut ds lo hi))) := fun σ H1 r1 S Q k =>
  h σ H1 r1 S _ fun x Ha ra px => h1 σ Ha (rk.tr r1 ra) (S.mono (rk.rb ra)) _ fun Hb rb => h2 σ Hb (rk.tr (rk.tr r1 ra) rb) (S.mono (rk.rb (rk.tr ra rb))) _ fun Hc rc => by
    obtain ⟨a, vs, e, s, q⟩ := im_st (rk.rb (rk.tr rb rc)) _ _ px
    refine .inr ⟨a, vs, e, s, fun z => ?_, fun _ p hp => k _ _ (rk.tr (rk.tr (rk.tr ra rb) rc) (rk.ex (Ex.new hp))) ⟨p, _, rfl, sqT_of upd_same, imAll_st (RB.of_ex (Ex.new hp)) _ _ (cutV_im q)⟩⟩
    refine k _ Hc (rk.tr (rk.tr ra rb) rc) ⟨a, vs, rfl, s, ?_⟩
    have := cutV_im (lo := lo) (hi := hi) q
    unfold cutV at this
    rw [z.1, z.2, List.drop_zero, Nat.sub_zero, List.take_length] at this
    exact this
end
theorem cut_upto {α : Type} {xs : List α} {n : Nat} : cut xs none (some (n : Int)) = xs.take n := by
  unfold cut
  rw [HT.sIx_none, HT.sIx_nat, List.drop_zero, Nat.sub_zero]
  rcases Nat.le_total n xs.length with h | h
  · rw [Nat.min_eq_left h]
  · rw [Nat.min_eq_right h, List.take_length, List.take_of_length_le h]
theorem cut_from {α : Type} {xs : List α} {n : Nat} : cut xs (some (n : Int)) none = xs.drop n := by
  unfold cut
  rw [HT.sIx_none, HT.sIx_nat]
  rcases Nat.le_total n xs.length with h | h
  · rw [Nat.min_eq_left h, List.take_of_length_le (by rw [List.length_drop]; omega)]
  · rw [Nat.min_eq_right h, Nat.sub_self, List.take_zero, List.drop_of_length_le h]
theorem RB.toEx {H H' : Hp} (r : RB (fun _ => False) H H') : Ex H H' := fun a o h => r.keep a o (fun z => z) h
/-! ### what is walked -/
section
variable (R : Hp → Hp → Prop) (B : Bn)
/-- n turns, at each the i-th is a Y i -/
def Src (wi : TI) (δ : List (Option PV)) (H : Hp) (n : Nat) (Y : Nat → PV) : Prop := ∀ σ H1, R H H1 → SD B H1 σ δ → ∀ Q : It → Hp → Prop,
  (∀ (J : It) (G : Hp → Prop) (H2 : Hp), R H1 H2 → Walk J n G (fun i Ha x Hb => Ex Ha Hb ∧ Y i x Hb) → (∀ H3, RB B H2 H3 → G H3) → Q J H2) → wi σ H1 Q
end
section
variable {R : Hp → Hp → Prop} {B : Bn} [rk : Rok B R] {K : PySem.W.Frag} {δ : List (Option PV)} {H : Hp} {ta tb : TE}
theorem getD_im {ds : List PyData} {vs : List V} {i : Nat} {v : V} (h : imAll K B ds vs H) (e : vs[i]? = some v) : im K B (ds.getD i .none) v H := by
  obtain ⟨d, e1, e2⟩ := imAll_getV h e
  rw [List.getD_eq_getElem?_getD, e1]
  exact e2
theorem src_range1 {n : Int} (h : Ev R B ta δ H (im K B (.int n))) (h1 : -(2 ^ 62) ≤ n) (h2 : n < 2 ^ 62) : Src R B (iRng1 (tCons ta tNil)) δ H n.toNat (fun i => im K B (.int i)) := fun σ H1 r S Q k =>
  h σ H1 r S _ fun v H2 r2 e => ⟨n, by rw [show v = _ from e], h1, h2, k _ (fun _ => True) H2 r2 (walk_range.mono (fun _ z => z) fun i Ha x Hb _ _ y => ⟨by rw [y.1]; exact Ex.refl _, by rw [y.2]; show V.int (0 + (i : Int)) = V.int _; rw [Int.zero_add]⟩) fun _ _ => trivial⟩
theorem src_range2 {a b : Int} (ha : Ev R B ta δ H (im K B (.int a))) (hb : Ev R B tb δ H (im K B (.int b))) (hc : -(2 ^ 62) ≤ a ∧ a < 2 ^ 62 ∧ -(2 ^ 62) ≤ b ∧ b < 2 ^ 62) : Src R B (iRng2 (tCons ta (tCons tb tNil))) δ H (b - a).toNat (fun i => im K B (.int (a + i))) := fun σ H1 r S Q k =>
  ha σ H1 r S _ fun v H2 r2 e => hb σ H2 (rk.tr r r2) (S.mono (rk.rb r2)) _ fun u H3 r3 e' => ⟨a, b, by rw [show v = _ from e, show u = _ from e'], hc, k _ (fun _ => True) H3 (rk.tr r2 r3) (walk_range.mono (fun _ z => z) fun i Ha x Hb _ _ y => ⟨by rw [y.1]; exact Ex.refl _, by rw [y.2]; rfl⟩) fun _ _ => trivial⟩
theorem src_tup {ds : List PyData} (h : Ev R B ta δ H (im K B (.tuple ds))) : Src R B (iSeqU K ta) δ H ds.length (fun i => im K B (ds.getD i .none)) := fun σ H1 r S Q k => .inr <|
  h σ H1 r S _ fun v H2 r2 ⟨a, vs, e, s, hv⟩ => ⟨a, e, ⟨vs, s⟩, by
    refine k _ (fun Hc => SqT K Hc a vs ∧ imAll K B ds vs Hc) H2 r2 ?_ fun H3 rb => ⟨rb.sqT s, imAll_st rb _ _ hv⟩
    rw [← imAll_len hv]
    exact walk_tup.mono (fun _ z => z.1) fun i Ha x Hb _ g y => ⟨by rw [y.1]; exact Ex.refl _, by rw [y.1]; exact getD_im g.2 y.2⟩⟩
theorem src_lst {ds : List PyData} (h : Ev R B ta δ H (im K B (.list ds))) : Src R B (iList K ta) δ H ds.length (fun i => im K B (ds.getD i .none)) := fun σ H1 r S Q k =>
  h σ H1 r S _ fun v H2 r2 ⟨a, vs, e, nb, s, hv⟩ => ⟨a, e, ⟨vs, s⟩, by
    refine k _ (fun Hc => SqL K Hc a vs ∧ imAll K B ds vs Hc) H2 r2 ?_ fun H3 rb => ⟨rb.sqL nb s, imAll_st rb _ _ hv⟩
    rw [← imAll_len hv]
    exact walk_list.mono (fun _ z => z.1) fun i Ha x Hb _ g y => ⟨by rw [y.1]; exact Ex.refl _, by rw [y.1]; exact getD_im g.2 y.2⟩⟩
theorem src_lstU {ds : List PyData} (h : Ev R B ta δ H (im K B (.list ds))) : Src R B (iSeqU K ta) δ H ds.length (fun i => im K B (ds.getD i .none)) := fun σ H1 r S Q k => .inl (src_lst h σ H1 r S Q k)
/-- a for loop -/
theorem st_for {wi : TI} {g : TG} {tb : TS} {n : Nat} {Y : Nat → PV} {D : Ends} {σ : L2.St} (S : SD B H σ δ) (hs : Src R B wi δ H n Y)
    (k : ∀ H0, R H H0 → SD B H0 σ δ → ∃ I : Nat → L2.St → Hp → Prop, I 0 σ H0 ∧ (∀ i s Hc, I i s Hc → RB B H0 Hc) ∧
      (∀ i x s Ha Hb, i < n → I i s Ha → Ex Ha Hb → Y i x Hb → g x s Hb fun σ2 H2 => tb { D with nx := I (i + 1), ct := I (i + 1), bk := D.nx } σ2 H2) ∧ ∀ s Hc, I n s Hc → D.nx s Hc) : tFor wi g tb D σ H :=
  hs σ H (rk.rf H) S _ fun J G H2 r2 w hG => by
    obtain ⟨I, i0, ir, it, id⟩ := k H2 r2 (S.mono (rk.rb r2))
    exact for_it w I i0 (fun i s Hc _ p => hG Hc (ir i s Hc p)) (fun i x s Ha Hb hi p y => it i x s Ha Hb hi p y.1 y.2) id
end
/-! ### list comprehensions, of one name -/
section
variable {R : Hp → Hp → Prop} {B : Bn} [rk : Rok B R] [rm : Rmk R] {K : PySem.W.Frag} {δ : List (Option PV)} {H : Hp}
/-- a list that was not there in H -/
def newL (K : PySem.W.Frag) (B : Bn) (H : Hp) (ds : List PyData) : PV := fun v Hc => ∃ a vs, v = .ref a ∧ H a = none ∧ ¬ B a ∧ Hc a = some (.lst vs) ∧ imAll K B ds vs Hc
instance {H : Hp} {ds : List PyData} : Stb B (newL K B H ds) := ⟨fun r ⟨a, vs, e, n, nb, h, q⟩ => ⟨a, vs, e, n, nb, r.keep _ _ nb h, imAll_st r _ _ q⟩⟩
theorem newL.im {H0 Hc : Hp} {ds : List PyData} {v : V} (h : newL K B H0 ds v Hc) : im K B (.list ds) v Hc := by
  obtain ⟨a, vs, e, n, nb, h, q⟩ := h
  exact ⟨a, vs, e, nb, sqL_of h, q⟩
theorem RB.fresh {H H' : Hp} {a : Addr} (r : RB B H H') (n : H' a = none) : H a = none := by
  cases e : H a with
  | none => rfl
  | some o =>
    rcases Classical.em (B a) with b | b
    · exact absurd n (r.ban a b (by rw [e]; exact fun z => nomatch z))
    · rw [r.keep a o b e] at n; cases n
theorem ev_lstN {ta : TA} {ds : List PyData} (h : EvA R B ta δ H (ds.map (EL.im K B))) (hl : ds.length ≤ sizeLine) : Ev R B (tLst ta) δ H (newL K B H ds) := fun σ H1 r1 S Q k =>
  h σ H1 r1 S _ fun vs H2 r2 pr => by
    have hv := imAll_of_pAll pr
    refine ⟨by rw [imAll_len hv]; exact hl, fun a ha => k _ _ (rk.tr r2 (rk.ex (Ex.new ha))) ⟨a, vs, rfl, RB.fresh (rk.rb (rk.tr r1 r2)) ha, not_ban (S.ok.mono (rk.rb r2)) ha, upd_same, imAll_st (RB.of_ex (Ex.new ha)) _ _ hv⟩⟩
theorem ev_lstV {ta : TA} {ps : List PV} (h : EvA R B ta δ H ps) (hl : ps.length ≤ sizeLine) (hst : ∀ vs Ha Hb, Ex Ha Hb → pAll ps vs Ha → pAll ps vs Hb) :
    Ev R B (tLst ta) δ H (fun v Hc => ∃ a vs, v = .ref a ∧ H a = none ∧ ¬ B a ∧ Hc a = some (.lst vs) ∧ pAll ps vs Hc) := fun σ H1 r1 S Q k =>
  h σ H1 r1 S _ fun vs H2 r2 pr => by
    have len : ∀ (ps : List PV) (vs : List V), pAll ps vs H2 → vs.length = ps.length := by
      intro ps
      induction ps with
      | nil => intro vs h; rw [show vs = [] from h]; rfl
      | cons p ps ih => intro vs ⟨v, r, e, _, h⟩; rw [e, List.length_cons, List.length_cons, ih r h]
    exact ⟨by rw [len _ _ pr]; exact hl, fun a ha => k _ _ (rk.tr r2 (rk.ex (Ex.new ha))) ⟨a, vs, rfl, RB.fresh (rk.rb (rk.tr r1 r2)) ha, not_ban (S.ok.mono (rk.rb r2)) ha, upd_same, hst vs _ _ (Ex.new ha) pr⟩⟩
theorem ev_lcN {wi : TI} {tt : TT} {te : TE} {v n : Nat} {Y : Nat → PV} [∀ i, Stb B (Y i)] (Acc : Nat → List PyData → Prop) (hs : Src R B wi δ H n Y) (hn : n ≤ sizeLine) (h0 : Acc 0 [])
    (turn : ∀ i ds Hc, i < n → Acc i ds → R H Hc → ∃ C : Bool → Prop, EvTx R B tt ((δ.set v none).set v (some (Y i))) Hc C ∧ (C false → Acc (i + 1) ds) ∧ (C true → ∀ Hd, R Hc Hd → ∃ P : PyData → Prop, Ev R B te ((δ.set v none).set v (some (Y i))) Hd (exP P (im K B)) ∧ ∀ d, P d → plain d = true ∧ Acc (i + 1) (ds ++ [d]))) :
    Ev R B (tLc wi (gName v) tt te [v]) δ H (exP (Acc n) fun ds => newL K B H ds) := fun σ H1 r1 S Q k =>
  hs σ H1 r1 S _ fun J G H2 r2 w hG D hD => by
    have nB : ¬ B D := not_ban (S.ok.mono (rk.rb r2)) hD
    have hD1 : Ex H2 (upd H2 D (.lst [])) := Ex.new hD
    refine lc_it w (fun i Hc => R H2 Hc ∧ ∃ ds vs, Hc D = some (.lst vs) ∧ imAll K B ds vs Hc ∧ plainAll ds = true ∧ ds.length ≤ i ∧ Acc i ds) ⟨rk.ex hD1, [], [], upd_same, rfl, rfl, Nat.le_refl _, h0⟩ (fun i Hc _ p => hG Hc (rk.rb p.1)) (fun i x Ha Hb hi p y => ?_) fun Hc p => ?_
    · obtain ⟨ra, ds, vs, eD, hv, hp, hl, acc⟩ := p
      obtain ⟨ye, yy⟩ := y
      have rb' : R H2 Hb := rk.tr ra (rk.ex ye)
      have Sb : SD B Hb (σ.set v none) (δ.set v none) := ((S.mono (rk.rb r2)).mono (rk.rb rb')).unset
      have S2 : SD B Hb ((σ.set v none).set v (some x)) ((δ.set v none).set v (some (Y i))) := Sb.set yy
      refine ⟨by show (((σ.set v none).set v (some x)).set v none) = σ.set v none; rw [List.set_set, List.set_set], ?_⟩
      obtain ⟨C, ht, hf, hT⟩ := turn i ds Hb hi acc (rk.tr r1 (rk.tr r2 rb'))
      refine ht _ Hb (rk.rf Hb) S2 _ fun b H3 cb r3 => ?_
      cases b with
      | false => exact ⟨rk.tr rb' r3, ds, vs, (rk.rb r3).keep _ _ nB (ye _ _ eD), imAll_st (rk.rb r3) _ _ (imAll_st (RB.of_ex ye) _ _ hv), hp, Nat.le_succ_of_le hl, hf cb⟩
      | true =>
        obtain ⟨P, he, hP⟩ := hT cb H3 r3
        refine he _ H3 (rk.rf H3) (S2.mono (rk.rb r3)) _ fun z H4 r4 ⟨d, pd, hz⟩ => ?_
        obtain ⟨pl, acc'⟩ := hP d pd
        have r34 : R Hb H4 := rk.tr r3 r4
        have e4 : H4 D = some (.lst vs) := (rk.rb r34).keep _ _ nB (ye _ _ eD)
        have hv4 : imAll K B ds vs H4 := imAll_st (rk.rb r34) _ _ (imAll_st (RB.of_ex ye) _ _ hv)
        refine ⟨vs, e4, ?_, rm.new (rk.tr rb' r34) hD, ds ++ [d], vs ++ [z], upd_same, ?_, ?_, ?_, acc'⟩
        · rw [imAll_len hv4]; omega
        · exact imAll_append (imAll_tk (TK.upd e4) _ _ hp hv4) ⟨z, [], rfl, im_tk (TK.upd e4) _ _ pl hz, rfl⟩
        · rw [plainAll_append, hp]; show (true && (plain d && true)) = true; rw [pl]; rfl
        · rw [List.length_append]; show ds.length + 1 ≤ i + 1; omega
    · obtain ⟨ra, ds, vs, eD, hv, hp, hl, acc⟩ := p
      exact k _ Hc (rk.tr r2 ra) ⟨ds, acc, D, vs, rfl, RB.fresh (rk.rb (rk.tr r1 r2)) hD, nB, eD, hv⟩
theorem ev_lc {wi : TI} {tt : TT} {te : TE} {v n : Nat} {Y : Nat → PV} [∀ i, Stb B (Y i)] (Acc : Nat → List PyData → Prop) (hs : Src R B wi δ H n Y) (hn : n ≤ sizeLine) (h0 : Acc 0 [])
    (turn : ∀ i ds Hc, i < n → Acc i ds → R H Hc → ∃ C : Bool → Prop, EvTx R B tt ((δ.set v none).set v (some (Y i))) Hc C ∧ (C false → Acc (i + 1) ds) ∧ (C true → ∀ Hd, R Hc Hd → ∃ P : PyData → Prop, Ev R B te ((δ.set v none).set v (some (Y i))) Hd (exP P (im K B)) ∧ ∀ d, P d → plain d = true ∧ Acc (i + 1) (ds ++ [d]))) :
    Ev R B (tLc wi (gName v) tt te [v]) δ H (exP (Acc n) fun ds => im K B (.list ds)) := (ev_lcN Acc hs hn h0 turn).conv fun v H1 _ ⟨ds, a, q⟩ => ⟨ds, a, q.im⟩
theorem etx_yes : EvTx R B tYes δ H (· = true) := fun σ H1 r S Q k => k true H1 rfl (rk.rf H1)
theorem etx_of {tt : TT} {b : Bool} (h : EvT R B tt δ H b) : EvTx R B tt δ H (· = b) := fun σ H1 r S Q k => h σ H1 r S Q fun H2 r2 => k b H2 rfl r2
theorem ev_one {te : TE} {d : PyData} (h : Ev R B te δ H (im K B d)) : Ev R B te δ H (exP (· = d) (im K B)) := h.conv fun v H1 _ pv => ⟨d, rfl, pv⟩
end
end EL

set_option Elab.async false
set_option linter.all false
set_option maxRecDepth 100000
set_option maxHeartbeats 4000000
set_option autoImplicit false
namespace EL
open PySem PySem.Spec PyProof.Rows L2
/-! ### the law's hand -/
abbrev big61 : Int := 2305843009213693951
structure HandOk (h l : Addr) (H : Hp) : Prop where
  ne : h ≠ l
  top : ∃ seed : Int, H h = some (.lst [.ref l, .int seed]) ∧ 0 ≤ seed ∧ seed < big61
  cells : ∃ cs : List Int, H l = some (.lst (cs.map .int)) ∧ (∀ c ∈ cs, 0 ≤ c) ∧ cs.length ≤ 63
def hB (h l : Addr) : Bn := fun a => a = h ∨ a = l
structure Rh (h l : Addr) (H H' : Hp) : Prop where
  rb : RB (hB h l) H H'
  ok : HandOk h l H → HandOk h l H'
class Has (B : Bn) (h l : Addr) : Prop where
  h1 : B h
  h2 : B l
instance {h l : Addr} : Has (hB h l) h l := ⟨.inl rfl, .inr rfl⟩
theorem HandOk.ex {h l : Addr} {H H' : Hp} (e : Ex H H') (o : HandOk h l H) : HandOk h l H' := by
  obtain ⟨n, ⟨s, e1, b1⟩, ⟨cs, e2, b2⟩⟩ := o
  exact ⟨n, ⟨s, e _ _ e1, b1⟩, ⟨cs, e _ _ e2, b2⟩⟩
instance {B : Bn} {h l : Addr} [hs : Has B h l] : Rok B (Rh h l) where
  rf := fun H => ⟨RB.refl H, id⟩
  tr := fun a b => ⟨a.rb.trans b.rb, fun o => b.ok (a.ok o)⟩
  ex := fun e => ⟨RB.of_ex e, fun o => o.ex e⟩
  rb := fun r => r.rb.sub fun a z => by
    rcases z with rfl | rfl
    · exact hs.h1
    · exact hs.h2
theorem HandOk.upd {h l p : Addr} {H : Hp} {o : HO} (k : HandOk h l H) (n1 : h ≠ p) (n2 : l ≠ p) : HandOk h l (upd H p o) := by
  obtain ⟨n, ⟨s, e1, b1⟩, ⟨cs, e2, b2⟩⟩ := k
  exact ⟨n, ⟨s, by rw [upd_ne n1]; exact e1, b1⟩, ⟨cs, by rw [upd_ne n2]; exact e2, b2⟩⟩
theorem HandOk.at1 {h l : Addr} {H : Hp} (k : HandOk h l H) : H h ≠ none := by
  obtain ⟨n, ⟨s, e1, b1⟩, _⟩ := k
  rw [e1]; exact fun z => nomatch z
theorem HandOk.at2 {h l : Addr} {H : Hp} (k : HandOk h l H) : H l ≠ none := by
  obtain ⟨n, _, ⟨cs, e2, b2⟩⟩ := k
  rw [e2]; exact fun z => nomatch z
instance {h l : Addr} : Rmk (Rh h l) := ⟨fun {H H' p o} r n => ⟨Rmk.new r.rb n, fun k => (r.ok k).upd (fun e => k.at1 (e ▸ n)) fun e => k.at2 (e ▸ n)⟩⟩
theorem HandOk.bok {h l : Addr} {H : Hp} (k : HandOk h l H) : BOk (hB h l) H := fun a z => by
  rcases z with rfl | rfl
  · exact k.at1
  · exact k.at2
/-- an int of which C is so -/
def intP (C : Int → Prop) : PV := fun v _ => ∃ i, C i ∧ v = .int i
instance {B : Bn} {C : Int → Prop} : Stb B (intP C) := ⟨fun _ h => h⟩
def spPick : Sp := fun vs H Q _ => ∃ (h l : Addr) (m : Int), vs = [.ref h, .int m] ∧ HandOk h l H ∧ 1 ≤ m ∧ m < 1073741824 ∧ ∀ d H', 0 ≤ d → d < m → Rh h l H H' → Q (.int d) H'
def spHand (K : PySem.W.Frag) : Sp := fun vs H Q _ => ∃ (a : Addr) (ns : List Int), vs = [.ref a] ∧ SqL K H a (ns.map .int) ∧ ns.length ≤ 63 ∧ ∀ h l H', Ex H H' → HandOk h l H' → H h = none → H l = none → Q (.ref h) H'
section
variable {B : Bn} {h l : Addr} [hs : Has B h l] {K : PySem.W.Frag} {δ : List (Option PV)} {H : Hp} {ta tb : TE} {E : XK}
theorem ev_pick {N : Int → Prop} (hk : HandOk h l H) (ha : Ev (Rh h l) B ta δ H (isP (.ref h))) (hb : Ev (Rh h l) B tb δ H (intP N)) (hN : ∀ m, N m → 1 ≤ m ∧ m < 1073741824) :
    Ev (Rh h l) B (tCall spPick [] E (tCons ta (tCons tb tNil))) δ H (intP fun d => ∃ m, N m ∧ 0 ≤ d ∧ d < m) := fun σ H1 r1 S Q k =>
  ha σ H1 r1 S _ fun x H2 r2 ex => hb σ H2 (Rok.tr B r1 r2) (S.mono (Rok.rb r2)) _ fun y H3 r3 ⟨m, nm, ey⟩ =>
    ⟨h, l, m, by rw [show x = _ from ex, ey]; rfl, ((r1.ok hk |> r2.ok) |> r3.ok), (hN m nm).1, (hN m nm).2, fun d H4 d0 d1 r4 => k _ H4 (Rok.tr B (Rok.tr B r2 r3) r4) ⟨d, ⟨m, nm, d0, d1⟩, rfl⟩⟩
theorem ev_pickI {m : Int} (hk : HandOk h l H) (ha : Ev (Rh h l) B ta δ H (isP (.ref h))) (hb : Ev (Rh h l) B tb δ H (im K B (.int m))) (h1 : 1 ≤ m) (h2 : m < 1073741824) :
    Ev (Rh h l) B (tCall spPick [] E (tCons ta (tCons tb tNil))) δ H (intP fun d => 0 ≤ d ∧ d < m) :=
  (ev_pick (N := (· = m)) hk ha (hb.conv fun v H1 _ e => ⟨m, rfl, e⟩) fun m' e => by subst e; exact ⟨h1, h2⟩).conv fun v H1 _ ⟨d, ⟨m', e, h0, h3⟩, ev⟩ => by subst e; exact ⟨d, ⟨h0, h3⟩, ev⟩
end
section
variable {R : Hp → Hp → Prop} {B : Bn} [rk : Rok B R] {K : PySem.W.Frag} {δ : List (Option PV)} {H : Hp} {ta tb : TE} {C D : Int → Prop}
theorem ev_addN (ha : Ev R B ta δ H (intP C)) (hb : Ev R B tb δ H (intP D)) : Ev R B (tOp (rAddU K) ta tb) δ H (intP fun k => ∃ i j, C i ∧ D j ∧ k = i + j) :=
  ev_op ha hb fun x y H1 _ _ ⟨i, c, hx⟩ ⟨j, d, hy⟩ Q k => .inl ⟨i, j, hx, hy, k _ H1 (Ex.refl H1) ⟨i + j, ⟨i, j, c, d, rfl⟩, rfl⟩⟩
theorem ev_intN {i : Int} (ha : Ev R B ta δ H (im K B (.int i))) : Ev R B ta δ H (intP (· = i)) := ha.conv fun v _ _ e => ⟨i, rfl, e⟩
theorem Ev.intm (ha : Ev R B ta δ H (intP C)) (h : ∀ i, C i → D i) : Ev R B ta δ H (intP D) := ha.conv fun v _ _ ⟨i, c, e⟩ => ⟨i, h i c, e⟩
theorem Ev.intx (ha : Ev R B ta δ H (intP C)) : Ev R B ta δ H (exP C fun i => im K B (.int i)) := ha.conv fun v _ _ ⟨i, c, e⟩ => ⟨i, c, e⟩
end
end EL

set_option Elab.async false
set_option linter.all false
set_option maxRecDepth 100000
set_option maxHeartbeats 4000000
set_option autoImplicit false
namespace EL
open PySem PySem.Spec PyProof.Rows L2
section
variable {R : Hp → Hp → Prop} {B : Bn} [rk : Rok B R] {K : PySem.W.Frag} {δ : List (Option PV)} {H : Hp} {ta tb to ti te : TE} {D : Ends} {σ : L2.St} {p : PV}
/-- an item of a list that is known at its address -/
theorem ev_ixE {a : Addr} {vs : List V} {i : Int} {v : V} (ha : Ev Ex B ta δ H (isP (.ref a))) (hb : Ev Ex B tb δ H (im K B (.int i))) (hl : H a = some (.lst vs)) (e : atI vs i = some v) : Ev Ex B (tOp (rIx K) ta tb) δ H (isP v) :=
  ev_op ha hb fun x y H1 r1 _ hx hy Q k => .inl ⟨a, vs, i, v, hx, hy, sqL_of (r1 _ _ hl), e, k v H1 (Ex.refl H1) rfl⟩
theorem Ev.lst {a : Addr} {vs : List V} {ds : List PyData} (ha : Ev Ex (fun _ => False) ta δ H (isP (.ref a))) (hl : H a = some (.lst vs)) (hv : imAll K (fun _ => False) ds vs H) : Ev Ex (fun _ => False) ta δ H (im K (fun _ => False) (.list ds)) :=
  ha.conv fun v H1 r1 e => ⟨a, vs, e, fun z => z, sqL_of (r1 _ _ hl), imAll_st (RB.of_ex r1) _ _ hv⟩
/-- a method of a list, as a statement -/
theorem st_lmeth {r : V → List V → Hp → VK → Prop} {ta : TA} {ps : List PV} {l : Addr} (S : SD B H σ δ) (ho : Ev R B to δ H (isP (.ref l))) (ha : EvA R B ta δ H ps) (ty : ∀ H1, R H H1 → ∃ xs, H1 l = some (.lst xs))
    (k : ∀ vs H2, R H H2 → SD B H2 σ δ → pAll ps vs H2 → r (.ref l) vs H2 (fun _ H3 => D.nx σ H3)) : tDrop (tBM K "list" r to ta) D σ H :=
  ho σ H (rk.rf H) S _ fun x H1 r1 e => by
    cases (show x = _ from e)
    obtain ⟨xs, e1⟩ := ty H1 r1
    exact ⟨.inl ⟨rfl, xs, sqL_of e1⟩, ha σ H1 r1 (S.mono (rk.rb r1)) _ fun vs H2 r2 pv => k vs H2 (rk.tr r1 r2) (S.mono (rk.rb (rk.tr r1 r2))) pv⟩
theorem st_setitem [Stb B p] {l : Addr} {i : Int} (S : SD B H σ δ) (he : Ev R B te δ H p) (ho : Ev R B to δ H (isP (.ref l))) (hi : Ev R B ti δ H (im K B (.int i)))
    (k : ∀ v H2, R H H2 → SD B H2 σ δ → p v H2 → ∃ xs j, H2 l = some (.lst xs) ∧ ixN xs.length i = some j ∧ D.nx σ (upd H2 l (.lst (xs.set j v)))) : tAsg te (gSub to ti rSetL) D σ H :=
  he σ H (rk.rf H) S _ fun v H1 r1 pv => ho σ H1 r1 (S.mono (rk.rb r1)) _ fun x H2 r2 e => hi σ H2 (rk.tr r1 r2) (S.mono (rk.rb (rk.tr r1 r2))) _ fun y H3 r3 e' => by
    cases (show x = _ from e); cases (show y = _ from e')
    obtain ⟨xs, j, h1, h2, h3⟩ := k v H3 (rk.tr (rk.tr r1 r2) r3) (S.mono (rk.rb (rk.tr (rk.tr r1 r2) r3))) (Stb.st (rk.rb (rk.tr r2 r3)) pv)
    exact ⟨l, xs, i, j, rfl, rfl, h1, h2, h3⟩
/-- while -/
theorem st_while {tc : TT} {tb : TS} (W : Nat → L2.St → Hp → Prop) (m0 : Nat) (h0 : W m0 σ H)
    (hs : ∀ m s Hc, W m s Hc → ∃ δ b, SD B Hc s δ ∧ EvT R B tc δ Hc b ∧ (b = true → ∀ H1, R Hc H1 → SD B H1 s δ → tb { D with nx := fun s' H' => ∃ m', m' < m ∧ W m' s' H', ct := fun s' H' => ∃ m', m' < m ∧ W m' s' H', bk := D.nx } s H1) ∧ (b = false → ∀ H1, R Hc H1 → SD B H1 s δ → D.nx s H1)) : tWhile tc tb D σ H := by
  refine ⟨W, ⟨m0, h0⟩, fun m s Hc w => ?_⟩
  obtain ⟨δ, b, S, ht, k1, k2⟩ := hs m s Hc w
  refine ht s Hc (rk.rf Hc) S _ fun H1 r1 => ?_
  cases b with
  | true => exact ⟨_, fun s' H' z => z, k1 rfl H1 r1 (S.mono (rk.rb r1))⟩
  | false => exact k2 rfl H1 r1 (S.mono (rk.rb r1))
end
section
variable {B : Bn} {K : PySem.W.Frag} {δ : List (Option PV)} {H : Hp} {ta : TE}
end
theorem canLayAll_ints : ∀ ns : List Int, PyData.canLayAll0 (ns.map .int) = true
  | [] => by rfl
  | n :: ns => by
    have := canLayAll_ints ns
    simp only [List.map_cons, PyData.canLayAll0, PyData.canLay0, this, Bool.and_self]
theorem depthAll_ints : ∀ ns : List Int, PyData.depthAll (ns.map .int) ≤ 1
  | [] => by simp [PyData.depthAll]
  | n :: ns => by
    have := depthAll_ints ns
    simp only [List.map_cons, PyData.depthAll, PyData.depth]
    omega
theorem shaped_ints (ns : List Int) : SeqAt.shaped (.list (ns.map .int)) = true := by
  unfold SeqAt.shaped
  have h1 := canLayAll_ints ns
  have h2 := depthAll_ints ns
  simp only [PyData.canLay0, h1, PyData.depth, Bool.true_and]
  exact decide_eq_true (by omega)
theorem shaped_int (i : Int) : SeqAt.shaped (.int i) = true := by
  unfold SeqAt.shaped
  simp [PyData.canLay0, PyData.depth]
theorem eqv_nil {ds : List PyData} : PyData.eqv (.list ds) (.list []) = ds.isEmpty := by
  cases ds <;> simp [PyData.eqv, PyData.eqvAll]
theorem RB.updB {B : Bn} {H0 Hc : Hp} {a : Addr} {xs : List V} {o : HO} (r : RB B H0 Hc) (b : B a) (e : Hc a = some (.lst xs)) : RB B H0 (upd Hc a o) :=
  r.trans ⟨fun c u n z => by rw [upd_ne (show c ≠ a from fun q => n (by rw [q]; exact b))]; exact z, (TK.upd e).tup, (TK.upd e).frz, fun c _ n => by
    by_cases q : c = a
    · subst q; rw [upd_same]; exact fun z => nomatch z
    · rw [upd_ne q]; exact n⟩
theorem ev_neNil {B : Bn} {K : PySem.W.Frag} {δ : List (Option PV)} {H : Hp} {ta : TE} {a : Addr} {cs : List Int} (ha : Ev Ex B ta δ H (isP (.ref a))) (hl : H a = some (.lst (cs.map .int))) :
    Ev Ex B (tOp (rNeU K) ta (tLst tNil)) δ H (im K B (.bool (!cs.isEmpty))) :=
  ev_op ha (ev_lst (K := K) (ds := []) ea_nil (Nat.zero_le _)) fun x y H1 r1 _ hx hy Q k => .inl ⟨.list (cs.map .int), .list [], by
    cases (show x = _ from hx)
    exact .lst (sqL_of (r1 _ _ hl)) (imAll_dp (K := K) (B := fun _ => False) _ _ (imAll_ints.mpr rfl)), im_dp _ _ hy, shaped_ints cs, by decide +kernel, k _ H1 (Ex.refl H1) (by show V.bl _ = V.bl _; rw [eqv_nil]; cases cs <;> rfl)⟩
end EL

set_option Elab.async false
set_option linter.all false
set_option maxRecDepth 100000
set_option maxHeartbeats 4000000
set_option autoImplicit false
namespace EL
open PySem PySem.Spec PyProof.Rows L2
/-! ### defs called where no repr is under way -/
structure FnG (P : Program) (w : World) (K : PySem.W.Frag) (mg : Str → Option Value) (bs : Heap) (CX : CXT) (k : Nat) (f : Addr) (fd : FuncData) (ps : List Str) (sp : Sp) : Prop where
  len : ∀ vs H Q E, sp vs H Q E → vs.length = ps.length
  run : ∀ (A : Around) (o : List Env) (s : Shared) (H : Hp) (ar : Args) (us : List Value) (vs : List V) (Q : VK) (E : XK),
    A.guards = some [] → Room k A → Env0 P w K mg bs A o s H → BindsTo s fd ar (ps.zip us) → Vals vs us → sp vs H Q E →
    codeAny (model P w) A (.call (.ref f) ar) (CR CX o P w H s Q E) s
theorem FnG.of {P : Program} {w : World} {K : PySem.W.Frag} {mg : Str → Option Value} {bs : Heap} {CX : CXT} {k : Nat} {f : Addr} {fd : FuncData} {ps : List Str} {sp : Sp}
    (F : FnOk P w K mg bs CX k f fd ps sp) : FnG P w K mg bs CX k f fd ps sp := ⟨F.len, fun A o s H ar us vs Q E _ => F.run A o s H ar us vs Q E⟩
section
variable {P : Program} {w : World} {K : PySem.W.Frag} {mg : Str → Option Value} {bs : Heap} {CX : CXT} {x qu : Str} {pa : Arguments} {bo : List Stmt} {sc : Scope} {dv : List V} {kw : List (Str × V)} {f : Addr} {fd : FuncData}
theorem okG {N ps : List Str} {k : Nat} {sp : Sp} (F : FunD K x qu pa bo sc dv kw f fd) (S : FnScope N ps sc)
    (hlen : ∀ vs H Q E, sp vs H Q E → vs.length = ps.length)
    (hb : ∀ (cv : Value) (A : Around) (o : List Env) (s : Shared) (H : Hp) (vs : List V) (Q : VK) (E : XK), A.guards = some [] →
      Room k (A.deeper (envOfC qu sc s.heap.objs.size f cv)) → sp vs H Q E →
      ∃ t, PSs (cxOf CX P w K mg bs N qu sc f cv A o s H E) bo t ∧ t ⟨fun _ H' => Q .non H', Q, fun _ _ => False, fun _ _ => False⟩ (start N vs) H) :
    FnG P w K mg bs CX (k + 1) f fd ps sp := by
  obtain ⟨oc, od, dV, kV, doc, pm, an, cv, ct, osl, rfl, hlk, hcd, _, _⟩ := F.ex
  refine ⟨hlen, fun A o s H ar us vs Q E gd rm en bd rv hsp => ?_⟩
  have hKin : K.In s.heap := en.mod.kin.keeps fun c z q => (en.bs c z q).1
  have hLim : s.heap.NoLimit := en.mod.nolimit.keeps fun c z q => (en.bs c z q).1
  have hkd : ∀ y ∈ ps.zip us, sc.names.lookup y.1 = some .local ∨
      (sc.names.lookup y.1 = some .cell ∧ ((cellsFrom (s.heap.objs.size + 1) sc.names []).lookup y.1).isSome = true) := by
    rintro ⟨nm, vl⟩ hy
    rcases S.par nm (List.of_mem_zip hy).1 with z | z
    · left; exact z
    · right; exact ⟨z, PySem.W.cellsFrom_some _ _ _ (.inl z)⟩
  refine codeAny_call_function rm.depth (hKin _ _ hlk) rfl S.co S.gen rfl (PySem.W.codeRec_of hKin hcd) (bd _ _ _ _ ?_)
  refine wpAny_newFunctionEnv_cells S.kind hkd fun ev hev s2 xx => ?_
  subst hev
  refine ⟨hLim.keeps xx.toInCall.keep, codeAny_func ?_⟩
  obtain ⟨t, ht, hq⟩ := hb cv A o s H vs Q E gd (rm.deeper _) hsp
  have II : Inv (cxOf CX P w K mg bs N qu sc f cv A o s H E) [] (start N vs) H s2 := inv_start S rm.hd en (hlen _ _ _ _ hsp) rv xx
  refine wpAny_mono (ht.run [] s2 (start N vs) H _ II hq) (fun fl s3 hs => ?_) fun e s3 hs => hs
  cases fl with
  | ret u => obtain ⟨v, σ', H', J, r2, z⟩ := hs; exact ⟨v, H', J.os, J.bare, J.base, J.hok, r2, z⟩
  | next => obtain ⟨σ', H', J, z⟩ := hs; exact ⟨.non, H', J.os, J.bare, J.base, J.hok, rfl, z⟩
  | brk => obtain ⟨_, _, _, z⟩ := hs; cases z
  | cont => obtain ⟨_, _, _, z⟩ := hs; cases z
end
section
variable {X : Cx} {CX : CXT} {k : Nat} {f : Addr} {fd : FuncData} {ps : List Str} {sp : Sp} {E : XK} {x : Str} {p pos : Pos} {e : Expr} {es : List Expr} {t : TA}
theorem pe_callG (F : FnG X.prog X.w X.K X.mg X.base CX k f fd ps sp) (gd : X.A.guards = some []) (rm : Room k X.A) (hg : Gl X x) (hm : X.mg x = some (.ref f)) (hk : PySem.W.keepIn X.K (.ref f) = true)
    (bd : Binds X.K fd ps []) (hx : Passes CX X E) (ha : PA X (e :: es) t) (d1 : (x == ("__debug__" : Str)) = false := by decide)
    (d2 : starEach (e :: es) X.env = (false, eval e X.env) :: starEach es X.env := by rfl) (d3 : (backTo pos (starEach es X.env)).any (·.1) = false := by rfl) :
    PE X (.Call (.Name x p) (e :: es) [] pos) (tCall sp [] E t) := by
  refine ⟨fun pins s σ H Q I h => wpAny_Call_Name_kw (ld_glob I hg hm ?_ d1)⟩
  refine PySem.W.callWith_K (h₀ := X.base) I.ok.mod.kin hk (thn (ha.run pos pins s σ H _ I h) ?_) d2 d3
  rintro us s1 ⟨vs, H1, I1, rv, q⟩
  refine ⟨I1.kIn, ?_⟩
  have q : sp (vs ++ []) H1 Q E := q
  rw [List.append_nil] at q
  have hl : (us ++ []).length = ps.length := by rw [List.append_nil, ← rv.length]; exact F.len _ _ _ _ q
  have bb := bd s1 us I1.kIn hl
  rw [List.append_nil] at bb
  refine wpAny_call (codeAny_mono (F.run X.A X.stack s1 H1 ⟨us, []⟩ us vs Q E gd rm I1.env0 bb rv q) fun r s2 hq => ?_)
  match r, hq with
  | .error er, hq => exact hx pins σ H1 s1 er s2 I1 hq
  | .ok (.ret u), hq => exact I1.after hq
/-- repr of data -/
def rReprD (K : PySem.W.Frag) : List V → Hp → VK → Prop := fun xs H Q => ∃ v d, xs = [v] ∧ Dp K H v d ∧ d.showable = true ∧ d.hasDict = false ∧ d.depth ≤ 64 ∧ d.shown.length ≤ sizeLine ∧ Q (.str d.shown) H
theorem call_reprD (gd : X.A.guards = some []) (hu : X.A.units + 66 < cLine) : CallR X (.builtin "repr") (rReprD X.K) := by
  intro pins s σ H xs us Q I r h
  obtain ⟨v, d, rfl, hd, sh, nd, dp, sz, q⟩ := h
  obtain ⟨u, rfl, ru⟩ := vals1 r
  obtain ⟨as, rd⟩ := Dp.reads I d v u hd ru
  have fin : ∀ (h' : Heap) (t : Tok) (tk : Nat), (∀ b o, s.heap.get? b = some o → h'.get? b = some o) → EP X pins σ Q (.str d.shown t) { s with heap := h', toks := tk } := fun h' t tk hk => ⟨.str d.shown, H, I.kept hk, ⟨t, rfl⟩, q⟩
  cases hd with
  | lst a b => cases ru; exact repr_of_reads' rd sh (PyData.noDict_hsm nd) gd (by omega) (fun _ _ z => z) fin sz
  | tup a b => cases ru; exact repr_of_reads' rd sh (PyData.noDict_hsm nd) gd (by omega) (fun _ _ z => z) fin sz
  | non => cases ru; rw [PyData.shown_none] at fin; exact PySem.P.repr_of_none (fin s.heap _ _ fun _ _ z => z)
  | bl b => cases ru; rw [PyData.shown_bool] at fin; exact PySem.P.repr_of_bool (by cases b <;> exact fin s.heap _ _ fun _ _ z => z)
  | int i => obtain ⟨t, rfl⟩ := ru; rw [PyData.shown_int] at fin; exact PySem.P.repr_of_int (by simpa [PyData.showable] using sh) (fin s.heap _ _ fun _ _ z => z)
  | str z => obtain ⟨t, rfl⟩ := ru; rw [PyData.shown_str] at fin sz; exact PySem.P.repr_of_str (fin s.heap _ _ fun _ _ z => z) sz
end
/-! ### the law's own call -/
section
variable {P : Program} {w : World} {K : PySem.W.Frag} {mg mb : Str → Option Value} {k : Nat} {fa a : Addr} {fd : FuncData} {x : Str} {sp : Sp} {s1 : Shared} {vs : List Value} {ns : List Int}
theorem callG_core (hr : Room k callerA) (F : ∀ bs : Heap, K.In bs → bs.Ns mainGlobals mg → FnG P w K mg bs CX0 k fa fd [x] sp) (hbd : ∀ (s : Shared) (u : Value), BindsTo s fd ⟨[u], []⟩ [(x, u)])
    (KX : K.In s1.heap) (n1 : s1.heap.Ns mainGlobals mg) (n2 : s1.heap.Ns builtinsNs mb) (n3 : ∀ x : Str, x ≠ "__name__" → mb x = bootBuiltins x) (n4 : s1.heap.NoLimit) (n5 : s1.gens = #[])
    (ha : s1.heap.get? a = some { cls := .type "list", data := .seq vs.toArray }) (H : Hp) (hO : Only H) (hok : HOk P w H s1.heap) (hA : ∀ b, H b ≠ none → b = a) (hK : H a ≠ none → K.lookup a = none)
    (hsp : sp [.ref a] H (fun v _ => v = .bl true) fun _ _ _ => False) :
    codeAny (model P w) callerA (.call (.ref fa) ⟨[.ref a], []⟩) (fun r s' => r = .ok (.ret (.bool true)) ∧ OldK s1.heap s'.heap ∧ s'.os = s1.os ∧ AllBare s'.gens) s1 := by
  have noD : ∀ (b : Addr) (o : Obj) (es : Array DictEntry) (ep : Nat), s1.heap.get? b = some o → o.data = .dict es ep → H b = none := by
    intro b o es ep e d
    by_cases z : H b = none
    · exact z
    · rw [hA b z, ha] at e
      cases e
      exact nomatch (show Data.seq vs.toArray _ = Data.dict es ep from d)
  have nsB : ∀ (b : Addr) (m : Str → Option Value), s1.heap.Ns b m → (hidT s1.heap H).Ns b m := by
    rintro b m ⟨o, es, ep, e, d, rest⟩
    exact ⟨o, es, ep, hidT_get e (noD b o es ep e d), d, rest⟩
  have inB : K.In (hidT s1.heap H) := by
    intro b o e
    refine hidT_get (KX b o e) ?_
    by_cases z : H b = none
    · exact z
    · have eb := hA b z
      rw [eb] at z e
      rw [hK z] at e
      cases e
  obtain ⟨mc, l1, l2⟩ := n4
  have md : Mod K mg (hidT s1.heap H) := ⟨inB, nsB _ _ n1, ⟨mb, nsB _ _ n2, n3⟩, ⟨mc, nsB _ _ l1, l2⟩⟩
  have en : Env0 P w K mg (hidT s1.heap H) callerA [] s1 H :=
    ⟨rfl, md, fun b o e => of_hidT e, Nat.le_of_eq (hidT_size _ _), trivial, fun b z => (nomatch (show b ∈ ([] : List Addr) from z)), hok, AllBare.of_eq n5⟩
  refine codeAny_mono ((F _ inB (nsB _ _ n1)).run callerA [] s1 H ⟨[.ref a], []⟩ [.ref a] [.ref a] _ _ rfl hr en (hbd s1 (.ref a)) (.cons rfl .nil) hsp) fun r s' h => ?_
  match r, h with
  | .error e, h => exact h.elim
  | .ok (.ret u), h =>
    obtain ⟨v, H', os, bare, un, hok2, r2, q⟩ := h
    cases (show v = .bl true from q)
    cases (show u = Value.bool true from r2)
    refine ⟨rfl, OldK.of_keep fun b o e => ?_, os, bare⟩
    rcases hO b with z | ⟨ob, xs, z⟩
    · exact un.keep b o e z (fun q => nomatch (show b ∈ ([] : List Addr) from q)) (fun q => nomatch q)
    · obtain ⟨e1, _⟩ := hok b _ z
      obtain ⟨e2, _⟩ := hok2 b _ (un.frzs b ob _ z)
      rw [e] at e1; cases e1
      exact e2
theorem callG (hr : Room k callerA) (F : ∀ bs : Heap, K.In bs → bs.Ns mainGlobals mg → FnG P w K mg bs CX0 k fa fd [x] sp) (hbd : ∀ (s : Shared) (u : Value), BindsTo s fd ⟨[u], []⟩ [(x, u)])
    (KX : K.In s1.heap) (n1 : s1.heap.Ns mainGlobals mg) (n2 : s1.heap.Ns builtinsNs mb) (n3 : ∀ x : Str, x ≠ "__name__" → mb x = bootBuiltins x) (n4 : s1.heap.NoLimit) (n5 : s1.gens = #[])
    (ha : s1.heap.get? a = some { cls := .type "list", data := .seq vs.toArray }) (hi : IntsAre vs ns) (hl : ns.length ≤ sizeLine)
    (hsp : ∀ H : Hp, Only H → SqL K H a (ns.map V.int) → sp [.ref a] H (fun v _ => v = .bl true) fun _ _ _ => False) :
    codeAny (model P w) callerA (.call (.ref fa) ⟨[.ref a], []⟩) (fun r s' => r = .ok (.ret (.bool true)) ∧ OldK s1.heap s'.heap ∧ s'.os = s1.os ∧ AllBare s'.gens) s1 := by
  have rv := vals_ints hi
  have lv := hi.length
  by_cases hk : K.lookup a = none
  · let H : Hp := fun b => if b = a then some (.frz { cls := .type "list", data := .seq vs.toArray } (.lst (ns.map V.int))) else none
    have at1 : H a = some (.frz { cls := .type "list", data := .seq vs.toArray } (.lst (ns.map V.int))) := if_pos rfl
    have at2 : ∀ b, b ≠ a → H b = none := fun b n => if_neg n
    have only : Only H := fun b => by
      by_cases hb : b = a
      · rw [hb]; exact .inr ⟨_, _, at1⟩
      · exact .inl (at2 b hb)
    refine callG_core hr F hbd KX n1 n2 n3 n4 n5 ha H only (fun b u z => ?_) (fun b z => ?_) (fun _ => hk) (hsp H only (.inl (.inr ⟨_, at1⟩)))
    · by_cases hb : b = a
      · rw [hb, at1] at z
        cases z
        rw [hb]
        exact ⟨ha, by rw [List.length_map]; exact hl, vs, _, rv, ha⟩
      · rw [at2 b hb] at z; cases z
    · by_cases hb : b = a
      · exact hb
      · exact absurd (at2 b hb) z
  · obtain ⟨o, ho⟩ := Option.ne_none_iff_exists'.mp hk
    have e := KX a o ho
    rw [ha] at e
    cases e
    have only : Only (fun _ => none) := fun _ => .inl rfl
    exact callG_core hr F hbd KX n1 n2 n3 n4 n5 ha (fun _ => none) only (fun b u z => nomatch (show (none : Option HO) = some u from z)) (fun b z => absurd rfl z) (fun z => absurd rfl z)
      (hsp _ only (.inr ⟨_, vs.toArray, _, ho, rfl, rfl, rfl, by rw [List.size_toArray, lv]; exact hl, by simpa using rv⟩))
end
theorem walkG {l : PySem.W.OpenLaw} {n k : Nat} {q : Program} {ls : List Str} {XP : (Str → Option Value) → Heap → Prop} {YP : World → Heap → Prop} {d : DefRec} {x : Str}
    (hn : l.most = some n) (hn2 : n ≤ sizeLine) (hdf : d.params.defaults = []) (hr : Room k callerA)
    (F : ∀ (w : World) (mg : Str → Option Value) (fa : Addr) (h : Heap), YP w h → h.Ns mainGlobals mg → mg d.name = some (.ref fa) →
      ∃ (K : PySem.W.Frag) (fd : FuncData) (sp : Sp), K.In h ∧ (∀ (s : Shared) (u : Value), BindsTo s fd ⟨[u], []⟩ [(x, u)]) ∧
        (∀ (H : Hp) (a : Addr) (ns : List Int), ns.length ≤ n → Only H → SqL K H a (ns.map V.int) → sp [.ref a] H (fun v _ => v = .bl true) fun _ _ _ => False) ∧
        ∀ bs : Heap, K.In bs → bs.Ns mainGlobals mg → FnG l.prog w K mg bs CX0 k fa fd [x] sp) :
    PySem.W.WalkO q ls XP YP l.row.toRowW d [] (fun f vs => PySem.call f vs) := by
  refine Att.attach_call hn hdf ?_
  intro w s0 s1 mg mb fa o pm cd doc a vs ns G Y ho hd hcd hmg hobj hints hlen hg
  obtain ⟨K, fd, sp, KX, hb, hsp, hF⟩ := F w mg fa _ Y G.T.g hmg
  exact callG hr hF hb KX G.T.g G.T.b G.T.builtins G.T.nolimit hg hobj hints (Nat.le_trans hlen hn2) (fun H hO hS => hsp H a ns hlen hO hS)
end EL

set_option Elab.async false
set_option linter.all false
set_option maxRecDepth 100000
set_option maxHeartbeats 4000000
set_option autoImplicit false
namespace EL
open PySem PySem.Spec PyProof.Rows L2
theorem rm66 {k : Nat} {A : Around} (r : Room k A) : A.units + 66 < cLine := by have := r.un; omega
/-! ### the slots by other words -/
def Cv (B' : Bn) (H : Hp) : List (Option PV) → List (Option PV) → Prop
  | [], [] => True
  | _ :: a, none :: b => Cv B' H a b
  | some p :: a, some q :: b => (∀ v, p v H → q v H) ∧ Stb B' q ∧ Cv B' H a b
  | _, _ => False
theorem Cv.len {B' : Bn} {H : Hp} : ∀ {a b : List (Option PV)}, Cv B' H a b → a.length = b.length
  | [], [], _ => rfl
  | _ :: a, none :: b, h => by rw [List.length_cons, List.length_cons, Cv.len (a := a) (b := b) (by cases ‹Option PV› <;> exact h)]
  | some _ :: a, some _ :: b, h => by rw [List.length_cons, List.length_cons, Cv.len (a := a) (b := b) h.2.2]
  | none :: _, some _ :: _, h => h.elim
  | [], _ :: _, h => h.elim
  | _ :: _, [], h => by cases ‹Option PV› <;> cases h
theorem Cv.get {B' : Bn} {H : Hp} : ∀ {a b : List (Option PV)} {i : Nat} {q : PV}, Cv B' H a b → b[i]? = some (some q) → Stb B' q ∧ ∃ p, a[i]? = some (some p) ∧ ∀ v, p v H → q v H
  | [], [], _, _, _, e => by simp at e
  | x :: a, none :: b, 0, q, _, e => by simp at e
  | x :: a, none :: b, i + 1, q, h, e => by
    have := Cv.get (a := a) (b := b) (i := i) (q := q) (by cases x <;> exact h) (by simpa using e)
    simpa using this
  | some x :: a, some y :: b, 0, q, h, e => by
    have e1 : y = q := by simpa using e
    subst e1
    exact ⟨h.2.1, x, rfl, h.1⟩
  | some x :: a, some y :: b, i + 1, q, h, e => by
    have := Cv.get (a := a) (b := b) (i := i) (q := q) h.2.2 (by simpa using e)
    simpa using this
  | none :: _, some _ :: _, _, _, h, _ => h.elim
  | [], _ :: _, _, _, h, _ => h.elim
  | _ :: _, [], _, _, h, _ => by cases ‹Option PV› <;> cases h
theorem SD.cv {B B' : Bn} {H : Hp} {σ : L2.St} {δ δ' : List (Option PV)} (s : SD B H σ δ) (o : BOk B' H) (c : Cv B' H δ δ') : SD B' H σ δ' := ⟨o, s.len.trans c.len, fun i q e => by
  obtain ⟨hq, p, e1, h⟩ := c.get e
  obtain ⟨v, e2, pv⟩ := s.get e1
  exact ⟨hq, v, e2, h v pv⟩⟩
theorem im_pl {K : PySem.W.Frag} {B B' : Bn} {H : Hp} {d : PyData} (h : plain d = true) : ∀ v, im K B d v H → im K B' d v H := fun v q => im_tk ⟨fun _ _ z => z, fun _ _ _ z => z⟩ d v h q
/-- one list of one's own -/
abbrev own1 (p : Addr) : Bn := fun a => a = p
theorem own1.ok {p : Addr} {H : Hp} {o : HO} (h : H p = some o) : BOk (own1 p) H := fun a z => by rw [z, h]; exact fun q => nomatch q
theorem RB.own {p : Addr} {H0 H Hc : Hp} (e : Ex H0 H) (n : H0 p = none) (r : RB (own1 p) H Hc) : Ex H0 Hc := fun a o h => r.keep a o (fun z => by rw [show a = p from z, n] at h; cases h) (e a o h)
section
variable {B : Bn} {K : PySem.W.Frag} {δ : List (Option PV)} {H : Hp} {te : TE} {q : PV} {D : Ends} {σ : L2.St}
theorem st_append [Stb B q] {i : Nat} {p : Addr} {vs : List V} (S : SD B H σ δ) (hi : δ[i]? = some (some (isP (.ref p)))) (hb : B p) (hp : H p = some (.lst vs)) (hl : vs.length < sizeLine) (he : Ev Ex B te δ H q)
    (k : ∀ v H3, SD B H3 σ δ → q v H3 → H3 p = some (.lst (vs ++ [v])) → RB B H H3 → D.nx σ H3) : tDrop (tBM K "list" rAppend (tVar i) (tCons te tNil)) D σ H := by
  refine st_lmeth (R := Ex) S (ev_var hi) (ea_cons he ea_nil) (fun H1 r1 => ⟨_, r1 _ _ hp⟩) fun us H2 r2 S2 ⟨v, r, e, hq, e2⟩ => ?_
  subst e; cases (show r = [] from e2)
  have h2 := r2 _ _ hp
  have rb := RB.updB (RB.refl H2) hb h2 (o := .lst (vs ++ [v]))
  exact ⟨p, vs, v, rfl, rfl, h2, hl, k v _ (S2.mono rb) (Stb.st rb hq) upd_same ((RB.of_ex r2).trans rb)⟩
end
section
variable {R : Hp → Hp → Prop} {B : Bn} [rk : Rok B R] {K : PySem.W.Frag} {δ : List (Option PV)} {H : Hp} {ta tb te : TE} {C : Int → Prop}
theorem ev_ixN {ds : List PyData} (ha : Ev R B ta δ H (im K B (.list ds))) (hb : Ev R B tb δ H (intP C)) (hc : ∀ i, C i → 0 ≤ i ∧ i < ds.length) : Ev R B (tOp (rIx K) ta tb) δ H (exP (· ∈ ds) (im K B)) :=
  ev_op ha hb fun x y H1 _ _ ⟨a, vs, hx, _, hs, hv⟩ ⟨i, c, hy⟩ Q k => by
    obtain ⟨h0, h1⟩ := hc i c
    have hl : i.toNat < ds.length := by omega
    have e : atI ds i = some ds[i.toNat] := by
      have := atI_nat (List.getElem?_eq_getElem hl)
      rwa [Int.toNat_of_nonneg h0] at this
    obtain ⟨v, e1, e2⟩ := atI_im hv e
    exact .inl ⟨a, vs, i, v, hx, hy, hs, e1, k v H1 (Ex.refl H1) ⟨_, List.getElem_mem hl, e2⟩⟩
theorem ev_repr {d : PyData} (he : Ev R B te δ H (im K B d)) (h1 : d.showable = true) (h2 : d.hasDict = false) (h3 : d.depth ≤ 64) (h4 : d.shown.length ≤ sizeLine) : Ev R B (tCB (rReprD K) (tCons te tNil)) δ H (im K B (.str d.shown)) :=
  ev_cb (ea_cons he ea_nil) fun vs H1 _ _ ⟨v, r, e, hv, e2⟩ Q k => by
    subst e; cases (show r = [] from e2)
    exact ⟨v, d, rfl, im_dp _ _ hv, h1, h2, h3, h4, k _ H1 (rk.rf H1) rfl⟩
end
/-! ### choosing from a list by the hand -/
def spOf (K : PySem.W.Frag) : Sp := fun vs H Q _ => ∃ (B : Bn) (h l : Addr) (ds : List PyData) (v : V), Has B h l ∧ BOk B H ∧ vs = [.ref h, v] ∧ HandOk h l H ∧ im K B (.list ds) v H ∧ 1 ≤ ds.length ∧ ds.length < 1073741824 ∧
  ∀ d u H', d ∈ ds → Rh h l H H' → im K B d u H' → Q u H'
theorem ev_of {B : Bn} {h l : Addr} [hs : Has B h l] {K : PySem.W.Frag} {δ : List (Option PV)} {H : Hp} {ta tb : TE} {E : XK} {ds : List PyData} (hk : HandOk h l H) (ha : Ev (Rh h l) B ta δ H (isP (.ref h))) (hb : Ev (Rh h l) B tb δ H (im K B (.list ds)))
    (h1 : 1 ≤ ds.length) (h2 : ds.length < 1073741824) : Ev (Rh h l) B (tCall (spOf K) [] E (tCons ta (tCons tb tNil))) δ H (exP (· ∈ ds) (im K B)) := fun σ H1 r1 S Q k =>
  ha σ H1 r1 S _ fun x H2 r2 ex => hb σ H2 (Rok.tr B r1 r2) (S.mono (Rok.rb r2)) _ fun y H3 r3 hy =>
    ⟨B, h, l, ds, y, hs, S.ok.mono (Rok.rb (Rok.tr B r2 r3)), by rw [show x = _ from ex]; rfl, ((r1.ok hk |> r2.ok) |> r3.ok), hy, h1, h2, fun d u H4 hd r4 hu => k _ H4 (Rok.tr B (Rok.tr B r2 r3) r4) ⟨d, hd, hu⟩⟩
/-! ### isinstance -/
def tyName : PyData → String
  | .none => "NoneType"
  | .bool _ => "bool"
  | .int _ => "int"
  | .str _ => "str"
  | .list _ => "list"
  | .tuple _ => "tuple"
  | .dict _ => "dict"
theorem im_ty {K : PySem.W.Frag} {B : Bn} {H : Hp} : ∀ {d : PyData} {v : V}, im K B d v H → TyX K H v (.type (tyName d))
  | .none, _, h => by cases (show _ = _ from h); exact .base .non
  | .bool _, _, h => by cases (show _ = _ from h); exact .base (.bl _)
  | .int _, _, h => by cases (show _ = _ from h); exact .base (.int _)
  | .str _, _, h => by cases (show _ = _ from h); exact .base (.str _)
  | .tuple ds, _, ⟨a, vs, e, s, _⟩ => by
    subst e
    rcases s with (s | ⟨o, s⟩) | ⟨o, its, n, h1, h2, _⟩
    · exact .base (.tup s)
    · exact .fTuple s
    · exact .kTuple h1 h2
  | .list ds, _, ⟨a, vs, e, _, s, _⟩ => by
    subst e
    rcases s with (s | ⟨o, s⟩) | ⟨o, its, n, h1, h2, _⟩
    · exact .base (.lst s)
    · exact .base (.frz s)
    · exact .kList h1 h2
  | .dict _, _, h => h.elim
theorem ev_isi {R : Hp → Hp → Prop} {B : Bn} [rk : Rok B R] {K : PySem.W.Frag} {δ : List (Option PV)} {H : Hp} {te : TE} {d : PyData} {T : String} {b : Bool} (he : Ev R B te δ H (im K B d)) (hb : kitB (tyName d) T = some b) :
    Ev R B (tCB (rIsi K) (tCons te (tCons (tC (.ty T)) tNil))) δ H (im K B (.bool b)) :=
  ev_cb (ea_cons he (ea_cons (ev_c (v := .ty T)) ea_nil)) fun vs H1 _ _ ⟨v, r, e, hv, v2, r2, e2, hv2, e3⟩ Q k => by
    subst e e2; cases (show r2 = [] from e3); cases (show v2 = _ from hv2)
    exact ⟨v, .ty T, _, _, b, rfl, .ty T, im_ty hv, kit_ty hb, k _ H1 (rk.rf H1) rfl⟩
theorem kit_none_int : kitB (tyName .none) "int" = some false := show kitB "NoneType" "int" = _ by decide +kernel
theorem kit_none_bool : kitB (tyName .none) "bool" = some false := show kitB "NoneType" "bool" = _ by decide +kernel
theorem kit_none_str : kitB (tyName .none) "str" = some false := show kitB "NoneType" "str" = _ by decide +kernel
theorem kit_none_tuple : kitB (tyName .none) "tuple" = some false := show kitB "NoneType" "tuple" = _ by decide +kernel
theorem kit_none_list : kitB (tyName .none) "list" = some false := show kitB "NoneType" "list" = _ by decide +kernel
theorem kit_bool_int {x : Bool} : kitB (tyName (.bool x)) "int" = some true := show kitB "bool" "int" = _ by decide +kernel
theorem kit_bool_bool {x : Bool} : kitB (tyName (.bool x)) "bool" = some true := show kitB "bool" "bool" = _ by decide +kernel
theorem kit_bool_str {x : Bool} : kitB (tyName (.bool x)) "str" = some false := show kitB "bool" "str" = _ by decide +kernel
theorem kit_bool_tuple {x : Bool} : kitB (tyName (.bool x)) "tuple" = some false := show kitB "bool" "tuple" = _ by decide +kernel
theorem kit_bool_list {x : Bool} : kitB (tyName (.bool x)) "list" = some false := show kitB "bool" "list" = _ by decide +kernel
theorem kit_int_int {x : Int} : kitB (tyName (.int x)) "int" = some true := show kitB "int" "int" = _ by decide +kernel
theorem kit_int_bool {x : Int} : kitB (tyName (.int x)) "bool" = some false := show kitB "int" "bool" = _ by decide +kernel
theorem kit_int_str {x : Int} : kitB (tyName (.int x)) "str" = some false := show kitB "int" "str" = _ by decide +kernel
theorem kit_int_tuple {x : Int} : kitB (tyName (.int x)) "tuple" = some false := show kitB "int" "tuple" = _ by decide +kernel
theorem kit_int_list {x : Int} : kitB (tyName (.int x)) "list" = some false := show kitB "int" "list" = _ by decide +kernel
theorem kit_str_int {x : Str} : kitB (tyName (.str x)) "int" = some false := show kitB "str" "int" = _ by decide +kernel
theorem kit_str_bool {x : Str} : kitB (tyName (.str x)) "bool" = some false := show kitB "str" "bool" = _ by decide +kernel
theorem kit_str_str {x : Str} : kitB (tyName (.str x)) "str" = some true := show kitB "str" "str" = _ by decide +kernel
theorem kit_str_tuple {x : Str} : kitB (tyName (.str x)) "tuple" = some false := show kitB "str" "tuple" = _ by decide +kernel
theorem kit_str_list {x : Str} : kitB (tyName (.str x)) "list" = some false := show kitB "str" "list" = _ by decide +kernel
theorem kit_list_int {x : List PyData} : kitB (tyName (.list x)) "int" = some false := show kitB "list" "int" = _ by decide +kernel
theorem kit_list_bool {x : List PyData} : kitB (tyName (.list x)) "bool" = some false := show kitB "list" "bool" = _ by decide +kernel
theorem kit_list_str {x : List PyData} : kitB (tyName (.list x)) "str" = some false := show kitB "list" "str" = _ by decide +kernel
theorem kit_list_tuple {x : List PyData} : kitB (tyName (.list x)) "tuple" = some false := show kitB "list" "tuple" = _ by decide +kernel
theorem kit_list_list {x : List PyData} : kitB (tyName (.list x)) "list" = some true := show kitB "list" "list" = _ by decide +kernel
theorem kit_tuple_int {x : List PyData} : kitB (tyName (.tuple x)) "int" = some false := show kitB "tuple" "int" = _ by decide +kernel
theorem kit_tuple_bool {x : List PyData} : kitB (tyName (.tuple x)) "bool" = some false := show kitB "tuple" "bool" = _ by decide +kernel
theorem kit_tuple_str {x : List PyData} : kitB (tyName (.tuple x)) "str" = some false := show kitB "tuple" "str" = _ by decide +kernel
theorem kit_tuple_tuple {x : List PyData} : kitB (tyName (.tuple x)) "tuple" = some true := show kitB "tuple" "tuple" = _ by decide +kernel
theorem kit_tuple_list {x : List PyData} : kitB (tyName (.tuple x)) "list" = some false := show kitB "tuple" "list" = _ by decide +kernel
theorem kit_dict_int {x : List (PyData × PyData)} : kitB (tyName (.dict x)) "int" = some false := show kitB "dict" "int" = _ by decide +kernel
theorem kit_dict_bool {x : List (PyData × PyData)} : kitB (tyName (.dict x)) "bool" = some false := show kitB "dict" "bool" = _ by decide +kernel
theorem kit_dict_str {x : List (PyData × PyData)} : kitB (tyName (.dict x)) "str" = some false := show kitB "dict" "str" = _ by decide +kernel
theorem kit_dict_tuple {x : List (PyData × PyData)} : kitB (tyName (.dict x)) "tuple" = some false := show kitB "dict" "tuple" = _ by decide +kernel
theorem kit_dict_list {x : List (PyData × PyData)} : kitB (tyName (.dict x)) "list" = some false := show kitB "dict" "list" = _ by decide +kernel
end EL

set_option Elab.async false
set_option linter.all false
set_option maxRecDepth 100000
set_option maxHeartbeats 4000000
set_option autoImplicit false
namespace EL
open PySem PySem.Spec PyProof.Rows L2
/-- what is open in a slot is told -/
theorem SD.opn {B : Bn} {H : Hp} {σ : L2.St} {δ : List (Option PV)} {α : Type} {C : α → Prop} {q : α → PV} [∀ a, Stb B (q a)] (s : SD B H σ δ) (i : Nat) (e : δ[i]? = some (some (exP C q))) : ∃ a, C a ∧ SD B H σ (δ.set i (some (q a))) := by
  obtain ⟨v, e1, a, c, h⟩ := s.get e
  refine ⟨a, c, s.ok, by rw [List.length_set]; exact s.len, fun j p e2 => ?_⟩
  by_cases hj : i = j
  · subst hj
    have hl : i < δ.length := by
      rcases Nat.lt_or_ge i δ.length with z | z
      · exact z
      · rw [List.getElem?_eq_none z] at e; cases e
    rw [List.getElem?_set_self hl] at e2
    cases e2
    exact ⟨inferInstance, v, e1, h⟩
  · rw [List.getElem?_set_ne hj] at e2
    exact s.at_ j p e2
theorem SD.opnI {K : PySem.W.Frag} {B : Bn} {H : Hp} {σ : L2.St} {δ : List (Option PV)} {C : Int → Prop} (s : SD B H σ δ) (i : Nat) (e : δ[i]? = some (some (intP C))) : ∃ a, C a ∧ SD B H σ (δ.set i (some (im K B (.int a)))) := by
  obtain ⟨v, e1, a, c, h⟩ := s.get e
  refine ⟨a, c, s.ok, by rw [List.length_set]; exact s.len, fun j p e2 => ?_⟩
  by_cases hj : i = j
  · subst hj
    have hl : i < δ.length := by
      rcases Nat.lt_or_ge i δ.length with z | z
      · exact z
      · rw [List.getElem?_eq_none z] at e; cases e
    rw [List.getElem?_set_self hl] at e2
    cases e2
    exact ⟨inferInstance, v, e1, h⟩
  · rw [List.getElem?_set_ne hj] at e2
    exact s.at_ j p e2
section
variable {R : Hp → Hp → Prop} {B : Bn} [rk : Rok B R] {K : PySem.W.Frag} {δ : List (Option PV)} {H : Hp} {ta tb te : TE} {D : Ends} {σ : L2.St} {i j : Nat}
/-- a, b = x, y by way of a tuple -/
theorem st_tup2 {ta : TA} {p q : PV} [Stb B p] [Stb B q] (S : SD B H σ δ) (h : EvA R B ta δ H [p, q]) (k : ∀ σ' H2, R H H2 → SD B H2 σ' ((δ.set i (some p)).set j (some q)) → D.nx σ' H2) :
    tAsg (tTup ta) (gTup K 2 (gCons (gName i) (gCons (gName j) gNil))) D σ H :=
  h σ H (rk.rf H) S _ fun vs H2 r2 ⟨v, r, e, pv, v2, r', e', qv, e''⟩ => by
    subst e e'; cases (show r' = [] from e'')
    refine ⟨show 2 ≤ sizeLine by decide, fun T hT => ⟨T, _, rfl, sqT_of upd_same, rfl, v, _, rfl, v2, _, rfl, rfl, ?_⟩⟩
    have ex : Ex H2 (upd H2 T (.tup [v, v2])) := Ex.new hT
    exact k _ _ (rk.tr r2 (rk.ex ex)) ((((S.mono (rk.rb r2)).mono (RB.of_ex ex)).set (Stb.st (B := B) (RB.of_ex ex) pv)).set (Stb.st (B := B) (RB.of_ex ex) qv))
/-- over a range of an open number of turns -/
theorem ev_lcB {g : TG} {tt : TT} {vs : List Nat} {N : Int → Prop} {p : PV} (hn : Ev R B ta δ H (intP N)) (h : ∀ n, N n → ∀ H1, R H H1 → Ev R B (tLc (iRng1 (tCons (tC (.int n)) tNil)) g tt te vs) δ H1 p) : Ev R B (tLc (iRng1 (tCons ta tNil)) g tt te vs) δ H p :=
  fun σ H1 r1 S Q k => hn σ H1 r1 S _ fun v H2 r2 ⟨n, c, e⟩ => by
    subst e
    exact h n c H2 (rk.tr r1 r2) σ H2 (rk.rf H2) (S.mono (rk.rb r2)) Q fun v H3 r3 pv => k v H3 (rk.tr r2 r3) pv
theorem ev_tupleLx {α : Type} {C : α → Prop} {f : α → List PyData} (ha : Ev R B ta δ H (exP C fun a => im K B (.list (f a)))) : Ev R B (tCB (rTupQ K) (tCons ta tNil)) δ H (exP C fun a => im K B (.tuple (f a))) :=
  ev_cb (ea_cons ha ea_nil) fun vs H1 _ _ ⟨v, r, e, ⟨z, c, a, xs, e1, _, s, h⟩, e2⟩ Q k => by
    subst e e1; cases (show r = [] from e2)
    exact ⟨a, xs, rfl, .inl ⟨s, fun l hl => k _ _ (rk.ex (Ex.new hl)) ⟨z, c, l, xs, rfl, sqT_of upd_same, imAll_st (RB.of_ex (Ex.new hl)) _ _ h⟩⟩⟩
theorem ev_tup2x {α : Type} {C : α → Prop} {f : α → PyData} {d : PyData} (ha : Ev R B ta δ H (im K B d)) (hb : Ev R B tb δ H (exP C fun a => im K B (f a))) : Ev R B (tTup (tCons ta (tCons tb tNil))) δ H (exP C fun a => im K B (.tuple [d, f a])) := fun σ H1 r1 S Q k =>
  ea_cons ha (ea_cons hb ea_nil) σ H1 r1 S _ fun vs H2 r2 ⟨v, r, e, pv, v2, r', e', ⟨a, c, qv⟩, e''⟩ => by
    subst e e'; cases (show r' = [] from e'')
    exact ⟨show 2 ≤ sizeLine by decide, fun T hT => k _ _ (rk.tr r2 (rk.ex (Ex.new hT))) ⟨a, c, T, _, rfl, sqT_of upd_same, imAll_st (B := B) (RB.of_ex (Ex.new hT)) [d, f a] [v, v2] ⟨v, _, rfl, pv, v2, _, rfl, qv, rfl⟩⟩⟩
end
/-- picks, as many as a range has -/
theorem ev_picks {B : Bn} {h l : Addr} [hs : Has B h l] {K : PySem.W.Frag} {δ : List (Option PV)} {H : Hp} {ta tn tm : TE} {E : XK} {N : Int → Prop} {v : Nat} {m : Int} (hk : HandOk h l H) (hn : Ev (Rh h l) B tn δ H (intP N)) (hN : ∀ n, N n → 0 ≤ n ∧ n ≤ 100000)
    (ha : ∀ i Hc, Rh h l H Hc → Ev (Rh h l) B ta ((δ.set v none).set v (some (im K B (.int i)))) Hc (isP (.ref h))) (hm : ∀ i Hc, Rh h l H Hc → Ev (Rh h l) B tm ((δ.set v none).set v (some (im K B (.int i)))) Hc (im K B (.int m))) (m1 : 1 ≤ m) (m2 : m < 1073741824) :
    Ev (Rh h l) B (tLc (iRng1 (tCons tn tNil)) (gName v) tYes (tCall spPick [] E (tCons ta (tCons tm tNil))) [v]) δ H (exP (fun ns : List Int => N ns.length ∧ ∀ x ∈ ns, 0 ≤ x ∧ x < m) fun ns => im K B (.list (ns.map .int))) :=
  ev_lcB hn fun n c H1 r1 => by
    obtain ⟨n0, n1⟩ := hN n c
    refine (ev_lc (K := K) (fun i ds => ∃ ns : List Int, ds = ns.map .int ∧ ns.length = i ∧ ∀ x ∈ ns, 0 ≤ x ∧ x < m) (src_range1 (K := K) (ev_int (i := n)) (by omega) (by omega)) (Nat.le_trans (show n.toNat ≤ 100000 by omega) (by decide)) ⟨[], rfl, rfl, by simp⟩ fun i ds Hc hi ⟨ns, e, hl, hx⟩ r =>
      ⟨_, etx_yes, (fun z => Bool.noConfusion z), fun _ Hd rd => ⟨fun d => ∃ x : Int, d = .int x ∧ 0 ≤ x ∧ x < m, (ev_pickI (rd.ok (r.ok (r1.ok hk))) (ha i Hd (Rok.tr B (Rok.tr B r1 r) rd)) (hm i Hd (Rok.tr B (Rok.tr B r1 r) rd)) m1 m2).conv fun u _ _ ⟨x, c, e⟩ => ⟨.int x, ⟨x, rfl, c.1, c.2⟩, e⟩, fun d ⟨x, ed, h0, h1⟩ => ?_⟩⟩).conv
      fun u H2 _ ⟨ds, ⟨ns, e, hl, hx⟩, hu⟩ => ⟨ns, ⟨by rw [hl, Int.toNat_of_nonneg n0]; exact c, hx⟩, by show im K B (.list (ns.map .int)) u H2; rw [← e]; exact hu⟩
    subst ed
    refine ⟨rfl, ns ++ [x], by rw [e, List.map_append]; rfl, by rw [List.length_append, hl]; rfl, fun y hy => ?_⟩
    rcases List.mem_append.mp hy with z | z
    · exact hx y z
    · rw [List.mem_singleton.mp z]; exact ⟨h0, h1⟩
/-! ### words that are shown -/
theorem showableAll_small {ns : List Int} (h : ∀ x ∈ ns, 0 ≤ x ∧ x < 1000) : PyData.showableAll (ns.map .int) = true := PyData.showableAll_ints ns fun n hn => by
  have := h n hn
  have e : n.natAbs < 2 ^ 10 := by omega
  by_cases z : n.natAbs = 0
  · rw [z]; decide
  · have := (Nat.log2_lt z).mpr e
    omega
theorem hasDictAll_ints : ∀ ns : List Int, PyData.hasDictAll (ns.map .int) = false
  | [] => by rfl
  | n :: ns => by
    have := hasDictAll_ints ns
    simp only [List.map_cons, PyData.hasDictAll, PyData.hasDict, this, Bool.or_self]
theorem leavesShortAll_small {ns : List Int} (h : ∀ x ∈ ns, 0 ≤ x ∧ x < 1000) : PyData.leavesShortAll 13 (ns.map .int) = true := by
  refine PyData.leavesShortAll_of_canLay0 13 _ (canLayAll_ints ns) (PyData.intsShortAll_ints ns fun n hn => ?_)
  have := h n hn
  omega
theorem weightAll_small : ∀ {ns : List Int}, (∀ x ∈ ns, 0 ≤ x ∧ x < 1000) → PyData.weightAll (ns.map .int) ≤ 11 * ns.length
  | [], _ => by simp [PyData.weightAll]
  | n :: ns, h => by
    have ih := weightAll_small (ns := ns) fun x hx => h x (List.mem_cons_of_mem _ hx)
    have h1 := h n List.mem_cons_self
    simp only [List.map_cons, PyData.weightAll, PyData.weight, List.length_cons]
    have : (if (n == 0) = true then 0 else n.natAbs.log2 + 1) ≤ 10 := by
      split
      · omega
      · rename_i z
        have z : n ≠ 0 := by simpa using z
        have := (Nat.log2_lt (show n.natAbs ≠ 0 by omega)).mpr (show n.natAbs < 2 ^ 10 by omega)
        omega
    omega
structure Shows (d : PyData) : Prop where
  s1 : d.showable = true
  s2 : d.hasDict = false
  s3 : d.depth ≤ 64
  s4 : d.shown.length ≤ sizeLine
theorem shows_wd {b r : List Int} (hb : ∀ x ∈ b, 0 ≤ x ∧ x < 1000) (hr : ∀ x ∈ r, 0 ≤ x ∧ x < 1000) (hl : b.length + r.length ≤ 10000) : Shows (wd b r) := by
  refine ⟨?_, ?_, ?_, ?_⟩
  · simp only [PyData.showable, PyData.showableAll, showableAll_small hb, showableAll_small hr, Bool.and_self]
  · simp only [PyData.hasDict, PyData.hasDictAll, hasDictAll_ints, Bool.or_self]
  · have h1 := depthAll_ints b
    have h2 := depthAll_ints r
    simp only [PyData.depth, PyData.depthAll]
    omega
  · refine PyData.shown_fits (B := 13) (by decide) (by decide) ?_ ?_
    · simp only [PyData.leavesShort, PyData.leavesShortAll, leavesShortAll_small hb, leavesShortAll_small hr, Bool.and_self]
    · have h1 := weightAll_small hb
      have h2 := weightAll_small hr
      simp only [PyData.weight, PyData.weightAll]
      omega
theorem ev_reprS {R : Hp → Hp → Prop} {B : Bn} [rk : Rok B R] {K : PySem.W.Frag} {δ : List (Option PV)} {H : Hp} {te : TE} {d : PyData} (he : Ev R B te δ H (im K B d)) (s : Shows d) : Ev R B (tCB (rReprD K) (tCons te tNil)) δ H (im K B (.str d.shown)) := ev_repr he s.s1 s.s2 s.s3 s.s4
theorem st_hand {K : PySem.W.Frag} {N : List Str} {a : Addr} {ns : List Int} {n : Nat} {D : Ends} {H : Hp} {E : XK} (hN : N.length = n + 2) (hS : SqL K H a (ns.map .int)) (hl : ns.length ≤ 63)
    (k : ∀ h l σ' H1, Ex H H1 → HandOk h l H1 → SD (hB h l) H1 σ' (none :: some (isP (.ref h)) :: List.replicate n none) → D.nx σ' H1) : tAsg (tCall (spHand K) [] E (tCons (tVar 0) tNil)) (gName 1) D (start N [.ref a]) H := by
  have e0 : start N [.ref a] = some (.ref a) :: List.replicate (n + 1) none := by
    unfold L2.start
    rw [hN]; rfl
  refine ⟨.ref a, by rw [e0]; rfl, a, ns, rfl, hS, hl, fun h l H1 e1 hk nh nl => ?_⟩
  refine k h l _ H1 e1 hk ⟨hk.bok, ?_, fun i p e => ?_⟩
  · rw [e0]
    simp
  · match i, e with
    | 0, e => cases e
    | 1, e => cases e; exact ⟨inferInstance, .ref h, by rw [e0]; rfl, rfl⟩
    | i + 2, e =>
      have e' : (List.replicate n (none : Option PV))[i]? = some (some p) := e
      rw [List.getElem?_replicate] at e'
      split at e' <;> cases e'
/-- what a law promises -/
def spLaw (K : PySem.W.Frag) : Sp := fun vs H Q _ => ∃ (a : Addr) (ns : List Int), vs = [.ref a] ∧ SqL K H a (ns.map .int) ∧ ns.length ≤ 63 ∧ ∀ H', Q (.bl true) H'
end EL

set_option Elab.async false
set_option linter.all false
set_option maxRecDepth 100000
set_option maxHeartbeats 4000000
set_option autoImplicit false
namespace EK
open PySem PySem.Spec PyProof.Rows L2 EL
def top (i : Nat) : Stmt := PySem.Challenge.pw_endlesshall_k02_letters_at_places.main.body.getD i (.Pass ⟨0, 0, 0, 0⟩)
abbrev s__law_pick : Stmt := top 4
abbrev N__law_pick : List Str := ["_law_hand_here", "_law_many", "_law_digit", "_law_mixed"]
theorem sc__law_pick : FnScope N__law_pick ["_law_hand_here", "_law_many"] (defScope s__law_pick) := ⟨rfl, rfl, rfl, by decide +kernel, rfl, by decide +kernel, by decide +kernel⟩
abbrev s__law_hand : Stmt := top 3
abbrev N__law_hand : List Str := ["_law_script", "_law_seed", "_law_cell"]
theorem sc__law_hand : FnScope N__law_hand ["_law_script"] (defScope s__law_hand) := ⟨rfl, rfl, rfl, by decide +kernel, rfl, by decide +kernel, by decide +kernel⟩

theorem ixN_0 {n : Nat} (h : 0 < n) : ixN n 0 = some 0 := by
  unfold ixN
  rw [if_pos (by omega), if_pos (by omega)]
  rfl
structure Hs (h l : Addr) (H0 Hc : Hp) (cs : List Int) (seed : Int) : Prop where
  ne : h ≠ l
  rb : RB (hB h l) H0 Hc
  top : Hc h = some (.lst [.ref l, .int seed])
  s0 : 0 ≤ seed
  s1 : seed < big61
  cel : Hc l = some (.lst (cs.map .int))
  pos : ∀ c ∈ cs, 0 ≤ c
  len : cs.length ≤ 63
theorem Hs.ex {h l : Addr} {H0 Hc Hd : Hp} {cs : List Int} {seed : Int} (s : Hs h l H0 Hc cs seed) (e : Ex Hc Hd) : Hs h l H0 Hd cs seed :=
  ⟨s.ne, s.rb.trans (RB.of_ex e), e _ _ s.top, s.s0, s.s1, e _ _ s.cel, s.pos, s.len⟩
theorem Hs.rh {h l : Addr} {H0 Hc : Hp} {cs : List Int} {seed : Int} (s : Hs h l H0 Hc cs seed) : Rh h l H0 Hc := ⟨s.rb, fun _ => ⟨s.ne, ⟨seed, s.top, s.s0, s.s1⟩, ⟨cs, s.cel, s.pos, s.len⟩⟩⟩
theorem Hs.cut {h l : Addr} {H0 Hc : Hp} {cs ds : List Int} {seed : Int} (s : Hs h l H0 Hc cs seed) (hp : ∀ c ∈ ds, 0 ≤ c) (hl : ds.length ≤ 63) : Hs h l H0 (upd Hc l (.lst (ds.map .int))) ds seed :=
  ⟨s.ne, RB.updB s.rb (.inr rfl) s.cel, by rw [upd_ne s.ne]; exact s.top, s.s0, s.s1, upd_same, hp, hl⟩
theorem Hs.seed {h l : Addr} {H0 Hc : Hp} {cs : List Int} {seed z : Int} (s : Hs h l H0 Hc cs seed) (h0 : 0 ≤ z) (h1 : z < big61) : Hs h l H0 (upd Hc h (.lst [.ref l, .int z])) cs z :=
  ⟨s.ne, RB.updB s.rb (.inl rfl) s.top, upd_same, h0, h1, by rw [upd_ne s.ne.symm]; exact s.cel, s.pos, s.len⟩
theorem Hs.of {h l : Addr} {H : Hp} (k : HandOk h l H) : ∃ cs seed, Hs h l H H cs seed := by
  obtain ⟨n, ⟨s, e1, b1, b2⟩, ⟨cs, e2, b3, b4⟩⟩ := k
  exact ⟨cs, s, n, RB.refl H, e1, b1, b2, e2, b3, b4⟩
section
variable {P : Program} {w : World} {K : PySem.W.Frag} {mg : Str → Option Value} {base : Heap}
theorem ok_pick {f : Addr} {fd : FuncData} {k : Nat} (F : FnP K "_law_pick" s__law_pick f fd) : FnOk P w K mg base CX0 (k + 1) f fd ["_law_hand_here", "_law_many"] spPick := by
  refine F.ok sc__law_pick (fun vs H Q E h => ?_) (fun cdv A outer s H vs Q E hr h => ⟨_, PSs.nox (pss_cons (ps_while PassesOwn.never (PW.pt (pw_and (pt_cmpR (op_neU hr.units) (pe_ix ix_seq (pv 0) pe_int (fun _ _ => rfl)) (pe_lst pa_nil) (nomark _)) (pw_and1 (pt_cmpR (op_eqU hr.units) (pe_ix ix_seq (pe_ix ix_seq (pv 0) pe_int (fun _ _ => rfl)) pe_int (fun _ _ => rfl)) pe_int (nomark _)))))
 (pss_one (ps_expr (pe_bm PySem.F.plainAttrs_list PySem.F.slot_list_pop PySem.F.type_list_pop mt_popAt (pe_ix ix_seq (pv 0) pe_int (fun _ _ => rfl)) (pa_cons pe_int pa_nil)))))
 (pss_cons (ps_if (pt_cmpR (op_neU hr.units) (pe_ix ix_seq (pv 0) pe_int (fun _ _ => rfl)) (pe_lst pa_nil) (nomark _))
 (pss_cons (ps_set (i := 2) sc__law_pick.nd rfl (.inl rfl) (pe_op op_modN (pe_ix ix_seq (pe_ix ix_seq (pv 0) pe_int (fun _ _ => rfl)) pe_int (fun _ _ => rfl)) (pv 1)))
 (pss_cons (ps_asg (pe_op op_fdivN (pe_ix ix_seq (pe_ix ix_seq (pv 0) pe_int (fun _ _ => rfl)) pe_int (fun _ _ => rfl)) (pv 1)) (pg_sub (pe_ix ix_seq (pv 0) pe_int (fun _ _ => rfl)) pe_int set_list))
 (pss_one (ps_ret (pv 2)))))
 pss_nil)
 (pss_cons (ps_asg (pe_op op_modN (pe_op op_addU (pe_op op_mulU (pe_ix ix_seq (pv 0) pe_int (fun _ _ => rfl)) pe_int) pe_int) pe_int) (pg_sub (pv 0) pe_int set_list))
 (pss_cons (ps_set (i := 3) sc__law_pick.nd rfl (.inl rfl) (pe_op op_fdivN (pe_ix ix_seq (pv 0) pe_int (fun _ _ => rfl)) pe_int))
 (pss_one (ps_ret (pe_op op_modN (pe_op op_fdivN (pe_op op_modN (pe_op op_mulU (pv 3) (pe_op op_addU (pe_op op_modN (pv 3) pe_int) pe_int)) pe_int) pe_int) (pv 1)))))))), ?_⟩)
  · obtain ⟨h, l, m, rfl, _⟩ := h
    rfl
  obtain ⟨h, l, m, rfl, hk, m1, m2, q⟩ := h
  obtain ⟨cs, seed, hs⟩ := Hs.of hk
  have S0 : SD (hB h l) H (start N__law_pick [.ref h, .int m]) [some (isP (.ref h)), some (im K (hB h l) (.int m)), none, none] :=
    ⟨hk.bok, rfl, fun i p e => by
      match i, e with
      | 0, e => cases e; exact ⟨inferInstance, _, rfl, rfl⟩
      | 1, e => cases e; exact ⟨inferInstance, _, rfl, rfl⟩
      | 2, e => cases e
      | 3, e => cases e
      | i + 4, e => simp at e⟩
  generalize start N__law_pick [.ref h, .int m] = σ at S0
  have ne0 : ∀ {Hc : Hp} {cs : List Int} {sd : Int}, Hs h l H Hc cs sd → EvT Ex (hB h l) (tTest (tOp (rNeU K) (tOp (rIx K) (tVar 0) (tC (.int 0))) (tLst tNil))) [some (isP (.ref h)), some (im K (hB h l) (.int m)), none, none] Hc (!cs.isEmpty) := fun {Hc cs sd} s =>
    et_test (ev_neNil (ev_ixE (ev_var rfl) ev_int s.top rfl) s.cel)
  -- the while
  refine st_seq (st_while (R := Ex) (B := hB h l) (fun n s Hc => SD (hB h l) Hc s [some (isP (.ref h)), some (im K (hB h l) (.int m)), none, none] ∧ ∃ cs, Hs h l H Hc cs seed ∧ n = cs.length) cs.length ⟨S0, cs, hs, rfl⟩ fun n s Hc ⟨S, cs, hs, en⟩ => ?_)
  cases cs with
  | nil =>
    refine ⟨_, false, S, (et_and (ne0 hs) (b := false) fun z => by cases z).is rfl, fun z => (by cases z), fun _ H1 r1 S1 => ?_⟩
    have hs := hs.ex r1
    refine st_seq (st_if (R := Ex) S1 (ne0 hs) (fun z => by cases z) fun _ H2 r2 S2 => ?_)
    have hs := hs.ex r2
    refine st_seq (st_setitem (R := Ex) (B := hB h l) (K := K) S2 (ev_mod (ev_add (ev_mul (ev_ixE (ev_var rfl) ev_int hs.top rfl) ev_int (.inr (by decide))) ev_int) ev_int (by decide)) (ev_var rfl) ev_int fun v H3 r3 S3 e3 => ?_)
    have hs := hs.ex r3
    refine ⟨_, 1, hs.top, rfl, ?_⟩
    have e3 : v = _ := e3
    rw [Int.fmod_eq_emod_of_nonneg _ (by decide)] at e3
    subst e3
    have S4 := S3.mono (RB.updB (RB.refl H3) (.inl rfl) hs.top (o := .lst [.ref l, .int ((seed * 3935559000370003 + 2691343689449507) % 2305843009213693951)]))
    have hs := hs.seed (z := (seed * 3935559000370003 + 2691343689449507) % 2305843009213693951) (Int.emod_nonneg _ (by decide)) (Int.emod_lt_of_pos _ (by decide))
    generalize (seed * 3935559000370003 + 2691343689449507) % 2305843009213693951 = z at hs S4
    refine st_seq (st_set (R := Ex) S4 (ev_fdiv (K := K) (ev_ixE (ev_var rfl) ev_int hs.top rfl) ev_int ⟨by decide, by decide⟩) fun s5 H5 r5 S5 => ?_)
    have hs := hs.ex r5
    have hz : 0 ≤ z.fdiv 65537 ∧ z.fdiv 65537 < 2 ^ 64 := by
      rw [Int.fdiv_eq_ediv_of_nonneg _ (by decide)]
      have := hs.s0; have := hs.s1
      simp only [big61] at this
      omega
    refine st_ret (R := Ex) S5 (ev_mod (ev_fdiv (ev_mod (ev_mul (ev_var rfl) (ev_add (ev_mod (ev_var rfl) ev_int (by decide)) ev_int) (.inl ⟨by omega, hz.2⟩)) ev_int (by decide)) ev_int ⟨by decide, by decide⟩) (ev_var rfl) (by omega)) fun v H6 r6 e6 => ?_
    have e6 : v = _ := e6
    rw [Int.fmod_eq_emod_of_nonneg _ (show 0 ≤ m by omega)] at e6
    subst e6
    exact q _ _ (Int.emod_nonneg _ (by omega)) (Int.emod_lt_of_pos _ (by omega)) (hs.ex r6).rh
  | cons c r =>
    have top0 : ∀ {Hc : Hp} {c : Int} {r : List Int}, Hs h l H Hc (c :: r) seed → Ev Ex (hB h l) (tOp (rIx K) (tOp (rIx K) (tVar 0) (tC (.int 0))) (tC (.int 0))) [some (isP (.ref h)), some (im K (hB h l) (.int m)), none, none] Hc (im K (hB h l) (.int c)) := fun {Hc c r} s => ev_ixE (ev_ixE (ev_var rfl) ev_int s.top rfl) ev_int s.cel (atI_nat (j := 0) rfl)
    refine ⟨_, decide (c = 0), S, (et_and (ne0 hs) fun _ => et_test (ev_eqI (top0 hs) ev_int)).is rfl, fun hc H1 r1 S1 => ?_, fun hc H1 r1 S1 => ?_⟩
    · have hs := hs.ex r1
      refine st_lmeth (R := Ex) (B := hB h l) S1 (ev_ixE (ev_var rfl) ev_int hs.top rfl) (ea_cons (ev_int (K := K)) ea_nil) (fun H2 r2 => ⟨_, (hs.ex r2).cel⟩) fun vs H2 r2 S2 pv => ?_
      obtain ⟨v, r', e, e2, e3⟩ := pv
      cases (show v = _ from e2); cases (show r' = [] from e3); subst e
      have hs := hs.ex r2
      refine ⟨l, _, 0, 0, .int c, rfl, rfl, hs.cel, by decide, by decide, (ixN_seq (ixN_0 (by rw [List.length_map]; exact Nat.succ_pos _))).1, rfl, ?_⟩
      refine ⟨r.length, by rw [en, List.length_cons]; omega, S2.mono (RB.updB (RB.refl H2) (.inr rfl) hs.cel), r, ?_, rfl⟩
      exact hs.cut (fun x hx => hs.pos x (List.mem_cons_of_mem _ hx)) (by have := hs.len; rw [List.length_cons] at this; omega)
    · have hs := hs.ex r1
      refine st_seq (st_if (R := Ex) S1 (ne0 hs) (fun _ H2 r2 S2 => ?_) fun z => by cases z)
      have hs := hs.ex r2
      refine st_seq (st_set (R := Ex) S2 (ev_mod (K := K) (top0 hs) (ev_var rfl) (by omega)) fun s3 H3 r3 S3 => ?_)
      have hs := hs.ex r3
      refine st_seq (st_setitem (R := Ex) (B := hB h l) (K := K) S3 (ev_fdiv (ev_ixE (ev_ixE (ev_var rfl) ev_int hs.top rfl) ev_int hs.cel (atI_nat (j := 0) rfl)) (ev_var rfl) ⟨by omega, by omega⟩) (ev_ixE (ev_var rfl) ev_int hs.top rfl) ev_int fun v H4 r4 S4 e4 => ?_)
      have hs := hs.ex r4
      cases (show v = _ from e4)
      have hc0 : 0 ≤ c := hs.pos c List.mem_cons_self
      refine ⟨_, 0, hs.cel, ixN_0 (by rw [List.length_map]; exact Nat.succ_pos _), ?_⟩
      have S5 := S4.mono (RB.updB (RB.refl H4) (.inr rfl) hs.cel (o := .lst (((c.fdiv m) :: r).map .int)))
      have hs := hs.cut (ds := (c.fdiv m) :: r) (fun x hx => by
        rcases List.mem_cons.mp hx with rfl | hx
        · rw [Int.fdiv_eq_ediv_of_nonneg _ (show 0 ≤ m by omega)]
          exact Int.ediv_nonneg hc0 (by omega)
        · exact hs.pos x (List.mem_cons_of_mem _ hx)) (by have := hs.len; rw [List.length_cons] at this ⊢; exact this)
      refine st_ret (R := Ex) S5 (ev_var rfl) fun v H6 r6 e6 => ?_
      have e6 : v = _ := e6
      rw [Int.fmod_eq_emod_of_nonneg _ (show 0 ≤ m by omega)] at e6
      subst e6
      exact q _ _ (Int.emod_nonneg _ (by omega)) (Int.emod_lt_of_pos _ (by omega)) (hs.ex r6).rh
theorem cut63 {ns : List Int} (h : ns.length ≤ 63) : cut (ns.map PyData.int) none (some 63) = ns.map .int := by
  rw [show (63 : Int) = ((63 : Nat) : Int) from rfl, cut_upto, List.take_of_length_le (by rw [List.length_map]; exact h)]
theorem getD_int {ns : List Int} {i : Nat} (h : i < ns.length) : (ns.map PyData.int).getD i .none = .int (ns.getD i 0) := by
  rw [List.getD_eq_getElem?_getD, List.getElem?_map, List.getElem?_eq_getElem h, List.getD_eq_getElem?_getD, List.getElem?_eq_getElem h]
  rfl
theorem ok_hand {f : Addr} {fd : FuncData} {k : Nat} (F : FnP K "_law_hand" s__law_hand f fd) : FnOk P w K mg base CX0 (k + 1) f fd ["_law_script"] (spHand K) := by
  refine F.ok sc__law_hand (fun vs H Q E h => ?_) (fun cdv A outer s H vs Q E hr h => ⟨_, PSs.nox (pss_cons (ps_set (i := 1) sc__law_hand.nd rfl (.inl rfl) pe_int)
 (pss_cons (ps_for PassesOwn.never rfl (pi_seqU (pe_slice sl_seqU (pv 0) po_none (po_some pe_int))) (pg_name (i := 2) sc__law_hand.nd rfl (.inl rfl))
 (pss_one (ps_set (i := 1) sc__law_hand.nd rfl (.inl rfl) (pe_op op_modN (pe_op op_addU (pe_op op_addU (pe_op op_mulU (pv 1) pe_int) (pe_op op_modN (pv 2) pe_int)) pe_int) pe_int))))
 (pss_one (ps_ret (pe_lst (pa_cons (pe_lc (own := [("_law_cell", 2)]) (by rfl) sc__law_hand.nd (pi_seqU (pe_slice sl_seqU (pv 0) po_none (po_some pe_int))) (blkOk_by (own := [("_law_cell", 2)]) (N := N__law_hand) (sc := defScope s__law_hand) (by decide +kernel)) (fun _ _ _ _ _ => (pg_name (i := 2) sc__law_hand.nd rfl (.inl rfl))) (fun _ _ _ _ _ => (pts_one (pt_cmpR op_ge (pv 2) (pe_op op_pow pe_int pe_int) (nomark _)))) (fun _ _ _ _ _ => (pv 2))) (pa_cons (pv 1) pa_nil))))))), ?_⟩)
  · obtain ⟨a, ns, rfl, _⟩ := h
    rfl
  obtain ⟨a, ns, rfl, hS, hl, q⟩ := h
  have S0 := SD.start (K := K) (N := N__law_hand) (ds := [.list (ns.map .int)]) (vs := [.ref a]) (H := H) BOk.none ⟨_, _, rfl, ⟨a, _, rfl, fun z => z, hS, imAll_ints.mpr rfl⟩, rfl⟩
  refine st_seq (st_set (R := Ex) S0 (ev_int (K := K)) fun s1 H1 r1 S1 => ?_)
  have src : ∀ {δ : List (Option PV)} {Hc : Hp}, δ[0]? = some (some (im K (fun _ => False) (.list (ns.map .int)))) → Src Ex (fun _ => False) (iSeqU K (tSl (rSlU K) (tVar 0) tNoPart (tPart (tC (.int 63))))) δ Hc (ns.map PyData.int).length (fun i => im K (fun _ => False) ((ns.map PyData.int).getD i .none)) := fun {δ Hc} e => by
    have := src_lstU (ev_slL (R := Ex) (H := Hc) (ev_var e) eo_none (eo_some (ev_int (K := K) (i := 63))))
    rw [cut63 hl] at this
    exact this
  refine st_seq (st_for (R := Ex) S1 (src rfl) fun H2 r2 S2 => ⟨fun i s Hc => RB (fun _ => False) H2 Hc ∧ ∃ sd, 0 ≤ sd ∧ sd < big61 ∧ SD (fun _ => False) Hc s [some (im K _ (.list (ns.map .int))), some (im K _ (.int sd)), none],
    ⟨RB.refl H2, 23, by decide, by decide, S2⟩, fun i s Hc z => z.1, fun i x s Ha Hb hi ⟨rb, sd, s0, s1, S⟩ e y => ?_, fun s Hc ⟨rb, sd, s0, s1, S⟩ => ?_⟩)
  · rw [List.length_map] at hi
    rw [getD_int hi] at y
    refine st_set (R := Ex) ((S.mono (RB.of_ex e)).set (i := 2) y) (ev_mod (ev_add (ev_add (ev_mul (ev_var rfl) ev_int (.inr (by decide))) (ev_mod (ev_var rfl) ev_int (by decide))) ev_int) ev_int (by decide)) fun s3 H3 r3 S3 => ?_
    refine ⟨(rb.trans (RB.of_ex e)).trans (RB.of_ex r3), _, ?_, ?_, S3.weak ⟨rfl, rfl, trivial⟩⟩
    · rw [Int.fmod_eq_emod_of_nonneg _ (show (0 : Int) ≤ 2305843009213693951 by decide)]; exact Int.emod_nonneg _ (by decide)
    · rw [Int.fmod_eq_emod_of_nonneg _ (show (0 : Int) ≤ 2305843009213693951 by decide)]; exact Int.emod_lt_of_pos _ (by decide)
  · have comp : Ev Ex (fun _ => False) _ _ Hc (exP (fun ds => ∃ cs : List Int, ds = cs.map .int ∧ (∀ c ∈ cs, 0 ≤ c) ∧ cs.length ≤ 63) fun ds => newL K (fun _ => False) Hc ds) :=
      (ev_lcN (fun i ds => ∃ cs : List Int, ds = cs.map .int ∧ (∀ c ∈ cs, 0 ≤ c) ∧ cs.length ≤ i) (src (δ := [some (im K (fun _ => False) (.list (ns.map .int))), some (im K (fun _ => False) (.int sd)), none]) rfl) (Nat.le_trans (by rw [List.length_map]; exact hl) (by decide)) ⟨[], rfl, by simp, Nat.le_refl _⟩
        (v := 2) (tt := tTest (tOp (rI0 fun i j => .bl (decide (j ≤ i))) (tVar 2) (tOp (rI CPow fun i j => .int (i ^ j.toNat)) (tC (.int 10)) (tC (.int 18))))) (te := tVar 2)
        fun i ds Hd hi ⟨cs, e, hp, hlen⟩ r => ⟨_, etx_of (et_test (ev_ge ((ev_var (i := 2) rfl).is (by rw [List.length_map] at hi; rw [getD_int hi])) (ev_pow ev_int ev_int ⟨by decide, by decide, by decide⟩))), fun _ => ⟨cs, e, hp, by omega⟩, fun hc He re => ⟨_, ev_one (d := .int (ns.getD i 0)) ((ev_var (i := 2) rfl).is (by rw [List.length_map] at hi; rw [getD_int hi])), fun d hd => ?_⟩⟩).conv
        fun v H1 _ ⟨ds, ⟨cs, e, hp, hlen⟩, n⟩ => ⟨ds, ⟨cs, e, hp, by rw [List.length_map] at hlen; omega⟩, n⟩
    · refine st_ret (R := Ex) S (ev_lstV (ea_cons comp (ea_cons (ev_var (i := 1) rfl) ea_nil)) (show 2 ≤ sizeLine by decide) fun vs Ha Hb e ⟨v, r, e1, h1, v2, r2, e2, h2, e3⟩ => ⟨v, r, e1, Stb.st (B := fun _ => False) (RB.of_ex e) h1, v2, r2, e2, h2, e3⟩) fun v H4 r4 ⟨h, vs, ev, nh, nb, eh, v1, y1, e1, ⟨ds, ⟨cs, e, hp, hlen⟩, l, us, e2, nl, nb2, el, hu⟩, v3, y3, e3, h3, e4⟩ => ?_
      have e0 : Ex H Hc := (r1.trans r2).trans rb.toEx
      subst ev e1 e2 e3 e; cases (show y3 = [] from e4); cases (show v3 = _ from h3)
      rw [imAll_ints.mp hu] at el
      refine q h l H4 (e0.trans r4) ⟨fun z => ?_, ⟨sd, eh, s0, s1⟩, ⟨cs, el, hp, hlen⟩⟩ (e0.free nh) (e0.free nl)
      subst z
      rw [eh] at el
      have := Option.some.inj el
      cases cs with
      | nil => cases this
      | cons c cs => cases this
    · subst hd
      rw [List.length_map] at hi
      refine ⟨rfl, cs ++ [ns.getD i 0], by rw [e, List.map_append]; rfl, fun c hc' => ?_, by rw [List.length_append]; show cs.length + 1 ≤ i + 1; omega⟩
      rcases List.mem_append.mp hc' with z | z
      · exact hp c z
      · rw [List.mem_singleton.mp z]
        have := of_decide_eq_true hc.symm
        exact Int.le_trans (by decide) this
end
abbrev s_letter_at : Stmt := top 1
abbrev N_letter_at : List Str := ["word", "k", "beginning", "again"]
theorem sc_letter_at : FnScope N_letter_at ["word", "k"] (defScope s_letter_at) := ⟨rfl, rfl, rfl, by decide +kernel, rfl, by decide +kernel, by decide +kernel⟩

section
variable {P : Program} {w : World} {K : PySem.W.Frag} {mg : Str → Option Value} {base : Heap}
theorem ok_letter_at {f : Addr} {fd : FuncData} {k : Nat} (F : FnP K "letter_at" s_letter_at f fd) (m_len : mg "len" = none) : FnOk P w K mg base CX0 (k + 1) f fd ["word", "k"] (spLetterAt K) := by
  refine F.ok sc_letter_at (fun vs H Q E h => pureSp.len (n := 2) (fun _ => rfl) h) (fun cdv A outer s H vs Q E hr h => ⟨_, PSs.nox (pss_cons (ps_asg (pv 0) (pg_tup rfl (pgs_cons (pg_name (i := 2) sc_letter_at.nd rfl (.inl rfl)) (pgs_cons (pg_name (i := 3) sc_letter_at.nd rfl (.inl rfl)) pgs_nil))))
 (pss_cons (ps_if (pt_cmpR op_lt (pv 1) (pe_callB call_len_seq (by rfl) m_len PySem.boot_len (pa_cons (pv 2) pa_nil)) (nomark _))
 (pss_one (ps_ret (pe_ix ix_seq (pv 2) (pv 1) (fun _ _ => rfl))))
 pss_nil)
 (pss_one (ps_ret (pe_ix ix_seq (pv 3) (pe_op op_modN (pe_op op_sub (pv 1) (pe_callB call_len_seq (by rfl) m_len PySem.boot_len (pa_cons (pv 2) pa_nil))) (pe_callB call_len_seq (by rfl) m_len PySem.boot_len (pa_cons (pv 3) pa_nil))) (fun _ _ => rfl)))))), ?_⟩)
  obtain ⟨B, ⟨b, r, k⟩, o, hv, ⟨hk, hr⟩, q⟩ := h
  dsimp only at hv hk hr q
  have S := SD.start (N := N_letter_at) o hv
  refine st_seq (st_unpack2 (R := Ex) S (ev_var rfl) fun σ1 H1 r1 S1 => ?_)
  refine st_seq (st_if (R := Ex) S1 (et_test (ev_lt (ev_var rfl) (ev_lenT (ev_var rfl)))) (fun hc H2 r2 S2 => ?_) (fun hc H2 r2 S2 => ?_))
  · have hc := of_decide_eq_true hc
    refine st_ret (R := Ex) S2 (ev_ixT (ev_var rfl) (ev_var rfl) (atI_ints hk ?_)) fun v H3 r3 hv => q v H3 ((r1.trans r2).trans r3) ?_
    · simpa using hc
    · unfold letterAt
      rw [if_pos (by simpa using hc)]
      exact hv
  · have hc := of_decide_eq_false hc
    have hl : (0 : Int) < r.length := by
      have := List.length_pos_iff.mpr hr
      omega
    simp only [List.length_map] at hc
    refine st_ret (R := Ex) S2 (ev_ixT (ev_var rfl) (ev_mod (ev_sub (ev_var rfl) (ev_lenT (ev_var rfl))) (ev_lenT (ev_var rfl)) (by simp only [List.length_map]; omega)) (atI_ints ?_ ?_)) fun v H3 r3 hv => q v H3 ((r1.trans r2).trans r3) ?_
    · simp only [List.length_map]
      rw [Int.fmod_eq_emod_of_nonneg _ (by omega)]
      exact Int.emod_nonneg _ (by omega)
    · simp only [List.length_map]
      rw [Int.fmod_eq_emod_of_nonneg _ (by omega)]
      exact Int.emod_lt_of_pos _ hl
    · unfold letterAt
      rw [if_neg hc]
      simp only [List.length_map] at hv
      rw [Int.fmod_eq_emod_of_nonneg _ (by omega)] at hv
      exact hv
end
abbrev s__law_of : Stmt := top 5
abbrev N__law_of : List Str := ["_law_hand_here", "_law_some"]
theorem sc__law_of : FnScope N__law_of ["_law_hand_here", "_law_some"] (defScope s__law_of) := ⟨rfl, rfl, rfl, by decide +kernel, rfl, by decide +kernel, by decide +kernel⟩

section
variable {P : Program} {w : World} {K : PySem.W.Frag} {mg : Str → Option Value} {base : Heap}
theorem ok_of {f f1 : Addr} {fd fd1 : FuncData} (F : FnP K "_law_of" s__law_of f fd) (F__law_pick : FnP K "_law_pick" s__law_pick f1 fd1) (b__law_pick : Binds K fd1 ["_law_hand_here", "_law_many"] [])
    (g__law_pick : mg "_law_pick" = some (.ref f1)) (m_len : mg "len" = none) : FnOk P w K mg base CX0 2 f fd ["_law_hand_here", "_law_some"] (spOf K) := by
  have G__law_pick : FnOk P w K mg base CX0 1 f1 fd1 ["_law_hand_here", "_law_many"] spPick := ok_pick F__law_pick
  refine F.ok sc__law_of (fun vs H Q E h => ?_) (fun cdv A outer s H vs Q E hr h => ⟨_, PSs.nox (pss_one (ps_ret (pe_ix ix_seq (pv 1) (pe_call G__law_pick (hr.mono (by decide)) (by rfl) g__law_pick F__law_pick.kp b__law_pick .nil pass0 (pa_cons (pv 0) (pa_cons (pe_callB call_len_seq (by rfl) m_len PySem.boot_len (pa_cons (pv 1) pa_nil)) pa_nil))) (fun _ _ => rfl)))), ?_⟩)
  · obtain ⟨B, h, l, ds, v, _, _, rfl, _⟩ := h
    rfl
  obtain ⟨B, h, l, ds, v, hs, o, rfl, hk, hv, h1, h2, q⟩ := h
  have S : SD B H (start N__law_of [.ref h, v]) [some (isP (.ref h)), some (im K B (.list ds))] := ⟨o, rfl, fun i p e => by
    match i, e with
    | 0, e => cases e; exact ⟨inferInstance, _, rfl, rfl⟩
    | 1, e => cases e; exact ⟨inferInstance, _, rfl, hv⟩
    | i + 2, e => simp at e⟩
  refine st_ret (R := Rh h l) S (ev_ixN (ev_var rfl) (ev_pickI (K := K) hk (ev_var rfl) (ev_lenL (ev_var rfl)) (by omega) (by omega)) fun i c => ?_) fun u H2 r2 ⟨d, hd, hu⟩ => q d u H2 hd r2 hu
  exact ⟨c.1, c.2⟩
end
abbrev s__law_walked : Stmt := top 6
abbrev N__law_walked : List Str := ["_law_word", "_law_upmost", "_law_found", "_law_row", "_law_at", "_law_k"]
theorem sc__law_walked : FnScope N__law_walked ["_law_word", "_law_upmost"] (defScope s__law_walked) := ⟨rfl, rfl, rfl, by decide +kernel, rfl, by decide +kernel, by decide +kernel⟩

abbrev s__law_right : Stmt := top 7
abbrev N__law_right : List Str := ["_law_word", "_law_k", "_law_due", "_law_found"]
theorem sc__law_right : FnScope N__law_right ["_law_word", "_law_k", "_law_due"] (defScope s__law_right) := ⟨rfl, rfl, rfl, by decide +kernel, rfl, by decide +kernel, by decide +kernel⟩

abbrev s_law : Stmt := top 8
abbrev N_law : List Str := ["_law_script", "_law_hand_here", "_law_turn", "_law_letters", "_law_size", "_law_beginning", "_law_word", "_law_kept", "_law_walked_here", "_law_k", "_law_far", "_law_near", "_law_rounds"]
theorem sc_law : FnScope N_law ["_law_script"] (defScope s_law) := ⟨rfl, rfl, rfl, by decide +kernel, rfl, by decide +kernel, by decide +kernel⟩

/-! ### the mathematics -/
def idx (b r : List Int) (i : Nat) : Nat := if i < b.length then i else b.length + (i - b.length) % r.length
theorem idx_lt {b r : List Int} (hr : r ≠ []) (i : Nat) : idx b r i < b.length + r.length := by
  unfold idx
  have := List.length_pos_iff.mpr hr
  split
  · omega
  · have := Nat.mod_lt (i - b.length) this
    omega
theorem idx_letter {b r : List Int} (hr : r ≠ []) (i : Nat) : (b ++ r).getD (idx b r i) 0 = letterAt b r i := by
  unfold idx letterAt
  have hp := List.length_pos_iff.mpr hr
  by_cases h : i < b.length
  · rw [if_pos h, if_pos (by omega), Int.toNat_natCast, List.getD_eq_getElem?_getD, List.getElem?_append_left h, List.getD_eq_getElem?_getD]
  · rw [if_neg h, if_neg (by omega), List.getD_eq_getElem?_getD, List.getElem?_append_right (by omega), List.getD_eq_getElem?_getD]
    congr 2
    rw [show ((i : Int) - b.length) = ((i - b.length : Nat) : Int) by omega, ← Int.natCast_emod, Int.toNat_natCast]
    omega
theorem idx_succ {b r : List Int} (hr : r ≠ []) (i : Nat) : idx b r (i + 1) = if idx b r i + 1 < b.length + r.length then idx b r i + 1 else b.length := by
  have hp := List.length_pos_iff.mpr hr
  unfold idx
  by_cases h : i < b.length
  · rw [if_pos h]
    by_cases h2 : i + 1 < b.length
    · rw [if_pos h2, if_pos (by omega)]
    · have e : i + 1 - b.length = 0 := by omega
      rw [if_neg h2, e, Nat.zero_mod, if_pos (by omega)]
      omega
  · rw [if_neg h, if_neg (by omega), show i + 1 - b.length = (i - b.length) + 1 by omega]
    have hm := Nat.mod_lt (i - b.length) hp
    by_cases h2 : (i - b.length) % r.length + 1 < r.length
    · rw [if_pos (by omega), Nat.add_mod, Nat.mod_eq_of_lt (a := 1) (by omega), Nat.mod_eq_of_lt (by omega)]
      omega
    · rw [if_neg (by omega)]
      have e : ((i - b.length) % r.length + 1) % r.length = 0 := by
        rw [show (i - b.length) % r.length + 1 = r.length by omega, Nat.mod_self]
      rw [Nat.add_mod]
      by_cases h1 : r.length = 1
      · rw [h1, Nat.mod_one]; rfl
      · rw [Nat.mod_eq_of_lt (a := 1) (by omega), e]; rfl
theorem letter_far {b r : List Int} (hr : r ≠ []) {n m : Int} (hn : (b.length : Int) ≤ n) : letterAt b r (n + m * r.length) = letterAt b r n ∨ n + m * r.length < b.length := by
  unfold letterAt
  by_cases h : n + m * r.length < b.length
  · exact .inr h
  · refine .inl ?_
    rw [if_neg h, if_neg (by omega), show n + m * (r.length : Int) - b.length = n - b.length + m * r.length by omega, Int.add_mul_emod_self_right]
def walkL (b r : List Int) (n : Nat) : List Int := (List.range n).map fun (j : Nat) => letterAt b r j
abbrev spWalked (K : PySem.W.Frag) : Sp := pureSp (α := List Int × List Int × Nat) K (fun a => [wd a.1 a.2.1, .int a.2.2]) (fun a => a.2.1 ≠ [] ∧ a.2.2 ≤ 10000 ∧ a.1.length + a.2.1.length ≤ 10000)
  (fun a => .list ((walkL a.1 a.2.1 a.2.2).map .int))
abbrev spRight (K : PySem.W.Frag) : Sp := pureSp (α := List Int × List Int × Int × Int) K (fun a => [wd a.1 a.2.1, .int a.2.2.1, .int a.2.2.2]) (fun a => 0 ≤ a.2.2.1 ∧ a.2.1 ≠ []) (fun a => .bool (decide (letterAt a.1 a.2.1 a.2.2.1 = a.2.2.2)))
section
variable {P : Program} {w : World} {K : PySem.W.Frag} {mg : Str → Option Value} {base : Heap}
theorem ok_right {f f1 : Addr} {fd fd1 : FuncData} (F : FnP K "_law_right" s__law_right f fd) (F_letter_at : FnP K "letter_at" s_letter_at f1 fd1) (b_letter_at : Binds K fd1 ["word", "k"] [])
    (g_letter_at : mg "letter_at" = some (.ref f1)) (m_len : mg "len" = none) (m_isinstance : mg "isinstance" = none) (m_int : mg "int" = none) (m_bool : mg "bool" = none) : FnOk P w K mg base CX0 2 f fd ["_law_word", "_law_k", "_law_due"] (spRight K) := by
  have G_letter_at : FnOk P w K mg base CX0 1 f1 fd1 ["word", "k"] (spLetterAt K) := ok_letter_at F_letter_at m_len
  refine F.ok sc__law_right (fun vs H Q E h => pureSp.len (n := 3) (fun _ => rfl) h) (fun cdv A outer s H vs Q E hr h => ⟨_, PSs.nox (pss_cons (ps_set (i := 3) sc__law_right.nd rfl (.inl rfl) (pe_call G_letter_at (hr.mono (by decide)) (by rfl) g_letter_at F_letter_at.kp b_letter_at .nil pass0 (pa_cons (pv 0) (pa_cons (pv 1) pa_nil))))
 (pss_one (ps_ret (pe_and (pe_callB call_isi (by rfl) m_isinstance (by decide +kernel) (pa_cons (pv 3) (pa_cons (pe_bltn (v := .ty "int") (by rfl) m_int (by decide +kernel) rfl) pa_nil))) (pe_and (pe_not (pe_callB call_isi (by rfl) m_isinstance (by decide +kernel) (pa_cons (pv 3) (pa_cons (pe_bltn (v := .ty "bool") (by rfl) m_bool (by decide +kernel) rfl) pa_nil)))) (pe_one (pe_cmpR (op_eqU hr.units) (pv 3) (pv 2) (nomark _)))))))), ?_⟩)
  obtain ⟨B, ⟨b, r, k, due⟩, o, hv, ⟨hk, hr⟩, q⟩ := h
  dsimp only at hv hk hr q
  have S := SD.start (N := N__law_right) o hv
  refine st_seq (st_set (R := Ex) S (ev_call (b, r, k) (ea_cons (ev_var rfl) (ea_cons (ev_var rfl) ea_nil)) ⟨hk, hr⟩) fun s1 H1 r1 S1 => ?_)
  refine st_ret (R := Ex) S1 (ev_and (ev_isi (ev_var rfl) kit_int_int) fun _ => ev_and (ev_not (ev_isi (ev_var rfl) kit_int_bool)) fun _ => ev_eqI (ev_var rfl) (ev_var rfl)) fun v H2 r2 h2 => q v H2 (r1.trans r2) ?_
  have h2 : im K B (.bool (true && (!false && decide (letterAt b r k = due)))) v H2 := h2
  simpa using h2
theorem ok_walked {f : Addr} {fd : FuncData} {k : Nat} (F : FnP K "_law_walked" s__law_walked f fd) (m_len : mg "len" = none) (m_range : mg "range" = none) : FnOk P w K mg base CX0 (k + 1) f fd ["_law_word", "_law_upmost"] (spWalked K) := by
  refine F.ok sc__law_walked (fun vs H Q E h => pureSp.len (n := 2) (fun _ => rfl) h) (fun cdv A outer s H vs Q E hr h => ⟨_, PSs.nox (pss_cons (ps_par3 (i := 2) (j := 3) (l := 4) (by rfl) sc__law_walked.nd rfl rfl rfl (by decide) (by decide) (by decide) rfl rfl rfl (pa_cons (pe_lst pa_nil) (pa_cons (pe_op op_addU (pe_ix ix_seq (pv 0) pe_int (fun _ _ => rfl)) (pe_ix ix_seq (pv 0) pe_int (fun _ _ => rfl))) (pa_cons pe_int pa_nil))) (by rfl))
 (pss_cons (ps_for PassesOwn.never rfl (pi_range1 (by rfl) m_range (pa_cons (pv 1) pa_nil)) (pg_name (i := 5) sc__law_walked.nd rfl (.inl rfl))
 (pss_cons (ps_expr (pe_bm PySem.F.plainAttrs_list PySem.F.slot_list_append PySem.F.type_list_append mt_append (pv 2) (pa_cons (pe_ix ix_seq (pv 3) (pv 4) (fun _ _ => rfl)) pa_nil)))
 (pss_one (ps_set (i := 4) sc__law_walked.nd rfl (.inl rfl) (pe_ifExp (pt_cmpR op_lt (pe_op op_addU (pv 4) pe_int) (pe_callB call_len_seq (by rfl) m_len PySem.boot_len (pa_cons (pv 3) pa_nil)) (nomark _)) (pe_op op_addU (pv 4) pe_int) (pe_callB call_len_seq (by rfl) m_len PySem.boot_len (pa_cons (pe_ix ix_seq (pv 0) pe_int (fun _ _ => rfl)) pa_nil)))))))
 (pss_one (ps_ret (pv 2))))), ?_⟩)
  obtain ⟨B, ⟨b, r, n⟩, o, hv, ⟨hr, hn, hl⟩, q⟩ := h
  dsimp only at hv hn hl hr q
  have S := SD.start (N := N__law_walked) o hv
  have hsz : (10000 : Nat) ≤ sizeLine := by decide
  have hp := List.length_pos_iff.mpr hr
  refine st_seq (st_par3 (R := Ex) S (ea_cons (ev_lstN (K := K) (ds := []) ea_nil (Nat.zero_le _)) (ea_cons (ev_catT (ev_ixT (ev_var rfl) ev_int rfl) (ev_ixT (ev_var rfl) ev_int rfl) (by simp only [List.length_map]; omega)) (ea_cons (ev_int (K := K)) ea_nil))) fun s1 H1 r1 S1 => ?_)
  obtain ⟨v, ev, p, vs0, rfl, np, nb, hp1, hv0⟩ := S1.get (i := 2) rfl
  cases (show vs0 = [] from hv0)
  rw [← List.map_append] at S1
  have S1 : SD (own1 p) H1 s1 [some (im K (own1 p) (wd b r)), some (im K (own1 p) (.int n)), some (isP (.ref p)), some (im K (own1 p) (tI (b ++ r))), some (im K (own1 p) (.int ((0 : Nat) : Int))), none] := by
    have hS := S1
    refine ⟨own1.ok hp1, hS.len, fun i q e => ?_⟩
    match i, e with
    | 0, e => cases e; obtain ⟨v, e1, e2⟩ := hS.get (i := 0) rfl; exact ⟨inferInstance, v, e1, im_pl (plain_wd b r) v e2⟩
    | 1, e => cases e; obtain ⟨v, e1, e2⟩ := hS.get (i := 1) rfl; exact ⟨inferInstance, v, e1, e2⟩
    | 2, e => cases e; exact ⟨inferInstance, _, ev, rfl⟩
    | 3, e => cases e; obtain ⟨v, e1, e2⟩ := hS.get (i := 3) rfl; exact ⟨inferInstance, v, e1, im_pl (plain_tI (b ++ r)) v e2⟩
    | 4, e => cases e; obtain ⟨v, e1, e2⟩ := hS.get (i := 4) rfl; exact ⟨inferInstance, v, e1, e2⟩
    | 5, e => cases e
    | i + 6, e => simp at e
  refine st_seq (st_for (R := Ex) S1 (src_range1 (K := K) (ev_var rfl) (by omega) (by omega)) fun H2 r2 S2 => ⟨fun i s Hc => RB (own1 p) H2 Hc ∧ Hc p = some (.lst ((walkL b r i).map .int)) ∧
      SD (own1 p) Hc s [some (im K (own1 p) (wd b r)), some (im K (own1 p) (.int n)), some (isP (.ref p)), some (im K (own1 p) (tI (b ++ r))), some (im K (own1 p) (.int (idx b r i : Nat))), none],
    ⟨RB.refl H2, r2 _ _ hp1, ?_⟩, fun i s Hc z => z.1, fun i x s Ha Hb hi ⟨rb, hpa, Sa⟩ e y => ?_, fun s Hc ⟨rb, hpc, Sc⟩ => ?_⟩)
  · have e0 : idx b r 0 = 0 := by
      unfold idx
      split
      · rfl
      · rw [Nat.zero_sub, Nat.zero_mod]; omega
    rw [e0]; exact S2
  · have Sb := ((Sa.mono (RB.of_ex e)).set (i := 5) y)
    have hlt := idx_lt (b := b) hr i
    rw [Int.toNat_natCast] at hi
    refine st_seq (st_append (K := K) (i := 2) (p := p) Sb rfl rfl (e _ _ hpa) (by rw [List.length_map]; unfold walkL; rw [List.length_map, List.length_range]; omega) (ev_ixT (d := .int (letterAt b r i)) (ev_var (i := 3) rfl) (ev_var (i := 4) rfl) ?_) fun v H3 S3 hv h3 r3 => ?_)
    · have := atI_ints (ns := b ++ r) (i := (idx b r i : Nat)) (by omega) (by rw [List.length_append]; omega)
      rw [Int.toNat_natCast, idx_letter hr] at this
      exact this
    · refine st_set (R := Ex) S3 (p := im K (own1 p) (.int (idx b r (i + 1) : Nat))) (ev_if (et_test (ev_lt (ev_add (ev_var (i := 4) rfl) ev_int) (ev_lenT (ev_var (i := 3) rfl)))) (fun hc => (ev_add (ev_var (i := 4) rfl) ev_int).is ?_) (fun hc => (ev_lenT (ev_ixT (ev_var (i := 0) rfl) ev_int rfl)).is ?_)) fun s4 H4 r4 S4 => ⟨((rb.trans (RB.of_ex e)).trans r3).trans (RB.of_ex r4), ?_, S4.weak ⟨rfl, rfl, rfl, rfl, rfl, trivial⟩⟩
      · have hc := of_decide_eq_true hc
        simp only [List.length_map, List.length_append] at hc
        rw [idx_succ hr, if_pos (by omega)]
        rfl
      · have hc := of_decide_eq_false hc
        simp only [List.length_map, List.length_append] at hc
        rw [idx_succ hr, if_neg (by omega), List.length_map]; rfl
      · unfold walkL
        rw [r4 _ _ h3, List.range_succ, List.map_append, List.map_append]
        cases (show v = _ from hv)
        rfl
  · rw [Int.toNat_natCast] at hpc
    refine st_ret (R := Ex) Sc (ev_var (i := 2) rfl) fun v H3 r3 h3 => q v H3 ((RB.own (r1.trans r2) np rb).trans r3) ?_
    exact ⟨p, _, h3, nb, sqL_of (r3 _ _ hpc), imAll_ints.mpr rfl⟩
end
theorem walkL_len (b r : List Int) (n : Nat) : (walkL b r n).length = n := by unfold walkL; rw [List.length_map, List.length_range]
theorem walkL_get (b r : List Int) {n i : Nat} (h : i < n) : (walkL b r n).getD i 0 = letterAt b r i := by
  unfold walkL
  rw [List.getD_eq_getElem?_getD, List.getElem?_map, List.getElem?_range h]
  rfl
section
variable {P : Program} {w : World} {K : PySem.W.Frag} {mg : Str → Option Value} {base : Heap}
theorem ok_law {f f1 f2 f3 f4 f5 : Addr} {fd fd1 fd2 fd3 fd4 fd5 : FuncData} (F : FnP K "law" s_law f fd)
    (F__law_hand : FnP K "_law_hand" s__law_hand f1 fd1) (b__law_hand : Binds K fd1 ["_law_script"] []) (g__law_hand : mg "_law_hand" = some (.ref f1))
    (F__law_pick : FnP K "_law_pick" s__law_pick f2 fd2) (b__law_pick : Binds K fd2 ["_law_hand_here", "_law_many"] []) (g__law_pick : mg "_law_pick" = some (.ref f2))
    (F__law_of : FnP K "_law_of" s__law_of f3 fd3) (b__law_of : Binds K fd3 ["_law_hand_here", "_law_some"] []) (g__law_of : mg "_law_of" = some (.ref f3))
    (F__law_walked : FnP K "_law_walked" s__law_walked f4 fd4) (b__law_walked : Binds K fd4 ["_law_word", "_law_upmost"] []) (g__law_walked : mg "_law_walked" = some (.ref f4))
    (F__law_right : FnP K "_law_right" s__law_right f5 fd5) (b__law_right : Binds K fd5 ["_law_word", "_law_k", "_law_due"] []) (g__law_right : mg "_law_right" = some (.ref f5))
    (G__law_of : FnOk P w K mg base CX0 2 f3 fd3 ["_law_hand_here", "_law_some"] (spOf K)) (G__law_right : FnOk P w K mg base CX0 2 f5 fd5 ["_law_word", "_law_k", "_law_due"] (spRight K))
    (m_len : mg "len" = none) (m_range : mg "range" = none) (m_tuple : mg "tuple" = none) (m_repr : mg "repr" = none) : FnG P w K mg base CX0 3 f fd ["_law_script"] (spLaw K) := by
  have G__law_hand : FnOk P w K mg base CX0 1 f1 fd1 ["_law_script"] (spHand K) := ok_hand F__law_hand
  have G__law_pick : FnOk P w K mg base CX0 1 f2 fd2 ["_law_hand_here", "_law_many"] spPick := ok_pick F__law_pick
  have G__law_walked : FnOk P w K mg base CX0 1 f4 fd4 ["_law_word", "_law_upmost"] (spWalked K) := ok_walked F__law_walked m_len m_range
  refine okG F sc_law (fun vs H Q E h => ?_) (fun cdv A outer s H vs Q E gd hr h => ⟨_, PSs.nox (pss_cons (ps_set (i := 1) sc_law.nd rfl (.inr rfl) (pe_call G__law_hand (hr.mono (by decide)) (by rfl) g__law_hand F__law_hand.kp b__law_hand .nil pass0 (pa_cons (pv 0) pa_nil)))
 (pss_cons (ps_for PassesOwn.never rfl (pi_range1 (by rfl) m_range (pa_cons pe_int pa_nil)) (pg_name (i := 2) sc_law.nd rfl (.inl rfl))
 (pss_cons (ps_asg (pe_tup (pa_cons (pe_op op_addU pe_int (pe_call G__law_pick (hr.mono (by decide)) (by rfl) g__law_pick F__law_pick.kp b__law_pick .nil pass0 (pa_cons (pv 1) (pa_cons pe_int pa_nil)))) (pa_cons (pe_call G__law_of (hr.mono (by decide)) (by rfl) g__law_of F__law_of.kp b__law_of .nil pass0 (pa_cons (pv 1) (pa_cons (pe_lst (pa_cons pe_int (pa_cons pe_int (pa_cons pe_int pa_nil)))) pa_nil))) pa_nil))) (pg_tup rfl (pgs_cons (pg_name (i := 3) sc_law.nd rfl (.inr rfl)) (pgs_cons (pg_name (i := 4) sc_law.nd rfl (.inl rfl)) pgs_nil))))
 (pss_cons (ps_set (i := 5) sc_law.nd rfl (.inl rfl) (pe_callTy call_tuple_of (by rfl) m_tuple (by decide +kernel) (pa_cons (pe_lc (own := [("_law_k", 9)]) (by rfl) sc_law.nd (pi_range1 (by rfl) m_range (pa_cons (pe_call G__law_pick (hr.mono (by decide)) (by rfl) g__law_pick F__law_pick.kp b__law_pick .nil pass0 (pa_cons (pv 1) (pa_cons (pe_op op_addU (pv 4) pe_int) pa_nil))) pa_nil)) (blkOk_by (own := [("_law_k", 9)]) (N := N_law) (sc := defScope s_law) (by decide +kernel)) (fun _ _ _ _ _ => (pg_name (i := 9) sc_law.nd rfl (.inl rfl))) (fun _ _ _ _ _ => pts_nil) (fun _ _ _ _ _ => (pe_call G__law_pick (hr.mono (by decide)) (by rfl) g__law_pick F__law_pick.kp b__law_pick .nil pass0 (pa_cons (pv 1) (pa_cons (pv 3) pa_nil))))) pa_nil)))
 (pss_cons (ps_set (i := 6) sc_law.nd rfl (.inl rfl) (pe_tup (pa_cons (pv 5) (pa_cons (pe_callTy call_tuple_of (by rfl) m_tuple (by decide +kernel) (pa_cons (pe_lc (own := [("_law_k", 9)]) (by rfl) sc_law.nd (pi_range1 (by rfl) m_range (pa_cons (pe_op op_addU pe_int (pe_call G__law_pick (hr.mono (by decide)) (by rfl) g__law_pick F__law_pick.kp b__law_pick .nil pass0 (pa_cons (pv 1) (pa_cons (pv 4) pa_nil)))) pa_nil)) (blkOk_by (own := [("_law_k", 9)]) (N := N_law) (sc := defScope s_law) (by decide +kernel)) (fun _ _ _ _ _ => (pg_name (i := 9) sc_law.nd rfl (.inl rfl))) (fun _ _ _ _ _ => pts_nil) (fun _ _ _ _ _ => (pe_call G__law_pick (hr.mono (by decide)) (by rfl) g__law_pick F__law_pick.kp b__law_pick .nil pass0 (pa_cons (pv 1) (pa_cons (pv 3) pa_nil))))) pa_nil)) pa_nil))))
 (pss_cons (ps_par (i := 7) (j := 8) (by rfl) sc_law.nd rfl rfl (by decide) rfl rfl (pa_cons (pe_callB (call_reprD gd (rm66 hr)) (by rfl) m_repr (by decide +kernel) (pa_cons (pv 6) pa_nil)) (pa_cons (pe_call G__law_walked (hr.mono (by decide)) (by rfl) g__law_walked F__law_walked.kp b__law_walked .nil pass0 (pa_cons (pv 6) (pa_cons (pe_op op_addU (pe_op op_addU (pe_callB call_len_seq (by rfl) m_len PySem.boot_len (pa_cons (pe_ix ix_seq (pv 6) pe_int (fun _ _ => rfl)) pa_nil)) (pe_op op_mulU pe_int (pe_callB call_len_seq (by rfl) m_len PySem.boot_len (pa_cons (pe_ix ix_seq (pv 6) pe_int (fun _ _ => rfl)) pa_nil)))) pe_int) pa_nil))) pa_nil)) (by rfl))
 (pss_cons (ps_for PassesOwn.never rfl (pi_range1 (by rfl) m_range (pa_cons (pe_callB call_len_seq (by rfl) m_len PySem.boot_len (pa_cons (pv 8) pa_nil)) pa_nil)) (pg_name (i := 9) sc_law.nd rfl (.inl rfl))
 (pss_one (ps_if (pt_not (pt_val (pe_call G__law_right (hr.mono (by decide)) (by rfl) g__law_right F__law_right.kp b__law_right .nil pass0 (pa_cons (pv 6) (pa_cons (pv 9) (pa_cons (pe_ix ix_seq (pv 8) (pv 9) (fun _ _ => rfl)) pa_nil))))))
 (pss_one (ps_ret pe_bl))
 pss_nil)))
 (pss_cons (ps_for PassesOwn.never rfl (pi_range1 (by rfl) m_range (pa_cons pe_int pa_nil)) (pg_name (i := 10) sc_law.nd rfl (.inl rfl))
 (pss_cons (ps_set (i := 11) sc_law.nd rfl (.inl rfl) (pe_op op_addU (pe_callB call_len_seq (by rfl) m_len PySem.boot_len (pa_cons (pe_ix ix_seq (pv 6) pe_int (fun _ _ => rfl)) pa_nil)) (pe_call G__law_pick (hr.mono (by decide)) (by rfl) g__law_pick F__law_pick.kp b__law_pick .nil pass0 (pa_cons (pv 1) (pa_cons (pe_callB call_len_seq (by rfl) m_len PySem.boot_len (pa_cons (pe_ix ix_seq (pv 6) pe_int (fun _ _ => rfl)) pa_nil)) pa_nil)))))
 (pss_cons (ps_set (i := 12) sc_law.nd rfl (.inl rfl) (pe_call G__law_pick (hr.mono (by decide)) (by rfl) g__law_pick F__law_pick.kp b__law_pick .nil pass0 (pa_cons (pv 1) (pa_cons (pe_op op_addU (pe_op op_fdivN (pe_op op_sub pe_int (pv 11)) (pe_callB call_len_seq (by rfl) m_len PySem.boot_len (pa_cons (pe_ix ix_seq (pv 6) pe_int (fun _ _ => rfl)) pa_nil))) pe_int) pa_nil))))
 (pss_one (ps_if (pt_not (pt_val (pe_call G__law_right (hr.mono (by decide)) (by rfl) g__law_right F__law_right.kp b__law_right .nil pass0 (pa_cons (pv 6) (pa_cons (pe_op op_addU (pv 11) (pe_op op_mulU (pv 12) (pe_callB call_len_seq (by rfl) m_len PySem.boot_len (pa_cons (pe_ix ix_seq (pv 6) pe_int (fun _ _ => rfl)) pa_nil)))) (pa_cons (pe_ix ix_seq (pv 8) (pv 11) (fun _ _ => rfl)) pa_nil))))))
 (pss_one (ps_ret pe_bl))
 pss_nil)))))
 (pss_one (ps_if (pt_cmpR (op_neU hr.units) (pe_callB (call_reprD gd (rm66 hr)) (by rfl) m_repr (by decide +kernel) (pa_cons (pv 6) pa_nil)) (pv 7) (nomark _))
 (pss_one (ps_ret pe_bl))
 pss_nil)))))))))
 (pss_one (ps_ret pe_bl)))), ?_⟩)
  · obtain ⟨a, ns, rfl, _⟩ := h
    rfl
  obtain ⟨a, ns, rfl, hS, hl, q⟩ := h
  -- the hand
  refine st_seq (st_hand (n := 11) rfl hS hl fun h l σ H1 e1 hk S1 => ?_)
  refine st_seq (st_for (R := Ex) S1 (src_range1 (K := K) ev_int (by decide) (by decide)) fun H2 r2 S2 => ⟨fun i s Hc => RB (hB h l) H2 Hc ∧ HandOk h l Hc ∧ SD (hB h l) Hc s [none, some (isP (.ref h)), none, none, none, none, none, none, none, none, none, none, none],
    ⟨RB.refl H2, hk.ex r2, S2⟩, fun i s Hc z => z.1, fun i x s Ha Hb hi ⟨rb, hk, Sa⟩ e y => ?_, fun s Hc _ => q _⟩)
  have hk := hk.ex e
  have rb : RB (hB h l) H2 Hb := rb.trans (RB.of_ex e)
  have Sb := ((Sa.mono (RB.of_ex e)).set (i := 2) y).weak (δ' := [none, some (isP (.ref h)), none, none, none, none, none, none, none, none, none, none, none]) ⟨rfl, trivial⟩
  clear Sa e
  -- letters, size
  refine st_seq (st_tup2 (R := Rh h l) Sb (ea_cons (ev_addN (K := K) (ev_intN (K := K) ev_int) (ev_pickI (K := K) hk (ev_var rfl) ev_int (by decide) (by decide))) (ea_cons (ev_of (K := K) (ds := [.int 2, .int 5, .int 150]) hk (ev_var rfl) (ev_lst (ds := [.int 2, .int 5, .int 150]) (ea_cons ev_int (ea_cons ev_int (ea_cons ev_int ea_nil))) (by decide)) (by decide) (by decide)) ea_nil)) fun s3 H3 r3 S3 => ?_)
  have hk := r3.ok hk
  have rb := rb.trans r3.rb
  obtain ⟨let', ⟨_, pk, e0, ⟨pk0, pk1⟩, e1⟩, S3⟩ := S3.opnI (K := K) 3 rfl
  obtain ⟨dsz, hsz, S3⟩ := S3.opn 4 rfl
  obtain ⟨sz, rfl, sz1, sz2⟩ : ∃ sz : Int, dsz = .int sz ∧ 2 ≤ sz ∧ sz ≤ 150 := by
    simp only [List.mem_cons, List.not_mem_nil, or_false] at hsz
    rcases hsz with e | e | e
    · exact ⟨2, e, by decide, by decide⟩
    · exact ⟨5, e, by decide, by decide⟩
    · exact ⟨150, e, by decide, by decide⟩
  have l1 : 1 ≤ let' := by omega
  have l2 : let' ≤ 4 := by omega
  -- beginning
  refine st_seq (st_setx (R := Rh h l) S3 (ev_tupleLx (K := K) (ev_picks (K := K) (m := let') hk (ev_pickI (K := K) hk (ev_var rfl) (ev_add (ev_var rfl) ev_int) (by omega) (by omega)) (fun n hn => by omega) (fun i Hc r => ev_var rfl) (fun i Hc r => ev_var rfl) l1 (by omega))) fun b s4 H4 ⟨⟨b0, b1⟩, b2⟩ r4 S4 => ?_)
  have hk := r4.ok hk
  have rb := rb.trans r4.rb
  -- word
  refine st_seq (st_setx (R := Rh h l) S4 (ev_tup2x (K := K) (ev_var rfl) (ev_tupleLx (K := K) (ev_picks (K := K) (m := let') hk (ev_addN (K := K) (ev_intN (K := K) ev_int) (ev_pickI (K := K) hk (ev_var rfl) (ev_var rfl) (by omega) (by omega))) (fun n ⟨i, j, e, c, e2⟩ => by omega) (fun i Hc r => ev_var rfl) (fun i Hc r => ev_var rfl) l1 (by omega)))) fun r s5 H5 ⟨⟨i1, j1, e1, c1, e2⟩, r2⟩ r5 S5 => ?_)
  have hk := r5.ok hk
  have rb := rb.trans r5.rb
  have hr1 : 1 ≤ r.length ∧ r.length ≤ 150 := by omega
  have hb1 : b.length ≤ 150 := by omega
  have hrn : r ≠ [] := fun z => by rw [z] at hr1; exact absurd hr1.1 (by decide)
  have sh : Shows (wd b r) := shows_wd (fun x hx => by have := b2 x hx; omega) (fun x hx => by have := r2 x hx; omega) (by omega)
  -- kept, walked_here
  have nW : ((b.length : Int) + 3 * r.length + 2) = ((b.length + 3 * r.length + 2 : Nat) : Int) := by omega
  refine st_seq (st_par (R := Ex) S5 (q := im K (hB h l) (.list ((walkL b r (b.length + 3 * r.length + 2)).map .int))) (ea_cons (ev_reprS (ev_var (i := 6) rfl) sh) (ea_cons (ev_call (b, r, b.length + 3 * r.length + 2) (ea_cons (ev_var (i := 6) rfl) (ea_cons ((ev_add (ev_add (ev_lenT (ev_ixT (ev_var (i := 6) rfl) ev_int rfl)) (ev_mul ev_int (ev_lenT (ev_ixT (ev_var (i := 6) rfl) ev_int rfl)) (.inl ⟨by decide, by decide⟩))) ev_int).is (by simp only [List.length_map]; rw [nW]; rfl)) ea_nil)) ⟨hrn, by show b.length + 3 * r.length + 2 ≤ 10000; omega, by show b.length + r.length ≤ 10000; omega⟩) ea_nil)) fun s6 H6 r6 S6 => ?_)
  have hk := hk.ex r6
  have rb := rb.trans (RB.of_ex r6)
  have S6 := S6.weak (δ' := [none, some (isP (.ref h)), none, none, none, none, some (im K (hB h l) (wd b r)), some (im K (hB h l) (.str (wd b r).shown)), some (im K (hB h l) (.list ((walkL b r (b.length + 3 * r.length + 2)).map .int))), none, none, none, none]) ⟨rfl, rfl, rfl, rfl, trivial⟩
  generalize eW : b.length + 3 * r.length + 2 = W at S6
  -- the near places
  refine st_seq (st_for (R := Ex) S6 (src_range1 (K := K) (ev_lenL (ev_var (i := 8) rfl)) (by omega) (by simp only [List.length_map, walkL_len]; omega)) fun H7 r7 S7 => ⟨fun i s Hc => Ex H7 Hc ∧ SD (hB h l) Hc s [none, some (isP (.ref h)), none, none, none, none, some (im K (hB h l) (wd b r)), some (im K (hB h l) (.str (wd b r).shown)), some (im K (hB h l) (.list ((walkL b r W).map .int))), none, none, none, none],
    ⟨Ex.refl H7, S7⟩, fun i s Hc z => RB.of_ex z.1, fun i x s Ha Hb hi ⟨ea, Sa⟩ e y => ?_, fun s Hc ⟨ec, Sc⟩ => ?_⟩)
  · simp only [List.length_map, walkL_len, Int.toNat_natCast] at hi
    have Sb := ((Sa.mono (RB.of_ex e)).set (i := 9) y)
    refine st_if (R := Ex) Sb (et_not (et_B (ev_call (b, r, (i : Int), letterAt b r i) (ea_cons (ev_var (i := 6) rfl) (ea_cons (ev_var (i := 9) rfl) (ea_cons (ev_ixL (ev_var (i := 8) rfl) (ev_var (i := 9) rfl) ?_) ea_nil))) ⟨by show (0 : Int) ≤ i; omega, hrn⟩))) (fun z => ?_) fun _ H8 r8 S8 => ⟨(ea.trans e).trans r8, S8.weak ⟨rfl, rfl, rfl, rfl, trivial⟩⟩
    · have := atI_ints (ns := walkL b r W) (i := (i : Int)) (by omega) (by rw [walkL_len]; omega)
      rw [Int.toNat_natCast, walkL_get b r hi] at this
      exact this
    · simp at z
  -- the far ones
  have hk := hk.ex (r7.trans ec)
  have rb := rb.trans (RB.of_ex (r7.trans ec))
  refine st_seq (st_for (R := Ex) Sc (src_range1 (K := K) ev_int (by decide) (by decide)) fun H8 r8 S8 => ⟨fun i s Hd => RB (hB h l) H8 Hd ∧ HandOk h l Hd ∧ SD (hB h l) Hd s [none, some (isP (.ref h)), none, none, none, none, some (im K (hB h l) (wd b r)), some (im K (hB h l) (.str (wd b r).shown)), some (im K (hB h l) (.list ((walkL b r W).map .int))), none, none, none, none],
    ⟨RB.refl H8, hk.ex r8, S8⟩, fun i s Hd z => z.1, fun i x s Ha Hb hi ⟨ra, hk, Sa⟩ e y => ?_, fun s Hd ⟨rd, hk, Sd⟩ => ?_⟩)
  · have hk := hk.ex e
    have ra := ra.trans (RB.of_ex e)
    have Sb := ((Sa.mono (RB.of_ex e)).set (i := 10) y)
    refine st_seq (st_setx (R := Rh h l) Sb (Ev.intx (K := K) (ev_addN (K := K) (ev_intN (K := K) (ev_lenT (ev_ixT (ev_var (i := 6) rfl) ev_int rfl))) (ev_pickI (K := K) hk (ev_var (i := 1) rfl) (ev_lenT (ev_ixT (ev_var (i := 6) rfl) ev_int rfl)) (by simp only [List.length_map]; omega) (by simp only [List.length_map]; omega)))) fun near s9 H9 ⟨i9, j9, e9, c9, en⟩ r9 S9 => ?_)
    simp only [List.length_map] at e9 c9
    have hk := r9.ok hk
    have ra := ra.trans r9.rb
    have dv : (999999999 - near).fdiv r.length ≤ 999999999 ∧ 0 ≤ (999999999 - near).fdiv r.length := by
      rw [Int.fdiv_eq_ediv_of_nonneg _ (by omega)]
      refine ⟨Int.le_trans (Int.ediv_le_self _ (by omega)) (by omega), Int.ediv_nonneg (by omega) (by omega)⟩
    refine st_seq (st_setx (R := Rh h l) S9 (Ev.intx (K := K) (ev_pickI (K := K) hk (ev_var (i := 1) rfl) (ev_add (ev_fdiv (ev_sub ev_int (ev_var (i := 11) rfl)) (ev_lenT (ev_ixT (ev_var (i := 6) rfl) ev_int rfl)) ⟨by simp only [List.length_map]; omega, by simp only [List.length_map]; omega⟩) ev_int) (by simp only [List.length_map]; omega) (by simp only [List.length_map]; omega))) fun rds s10 H10 ⟨rd0, rd1⟩ r10 S10 => ?_)
    have hk := r10.ok hk
    have ra := ra.trans r10.rb
    have mul0 : 0 ≤ rds * r.length := Int.mul_nonneg rd0 (by omega)
    dsimp only
    refine st_if (R := Ex) S10 (et_not (et_B (ev_call (b, r, near + rds * r.length, letterAt b r near) (ea_cons (ev_var (i := 6) rfl) (ea_cons (ev_add (ev_var (i := 11) rfl) (ev_mul (j := (r.length : Int)) (ev_var (i := 12) rfl) ((ev_lenT (ev_ixT (ev_var (i := 6) rfl) ev_int rfl)).is (by rw [List.length_map])) (.inr ⟨by omega, by omega⟩))) (ea_cons (ev_ixL (ev_var (i := 8) rfl) (ev_var (i := 11) rfl) ?_) ea_nil))) ⟨by show (0 : Int) ≤ near + rds * r.length; omega, hrn⟩))) (fun z => ?_) fun _ H11 r11 S11 => ⟨ra.trans (RB.of_ex r11), hk.ex r11, S11.weak ⟨rfl, rfl, rfl, rfl, trivial⟩⟩
    · have := atI_ints (ns := walkL b r W) (i := near) (by omega) (by rw [walkL_len]; omega)
      rw [walkL_get b r (by omega), Int.toNat_of_nonneg (by omega)] at this
      exact this
    · have := letter_far (b := b) hrn (n := near) (m := rds) (by omega)
      rcases this with e | e
      · simp [e] at z
      · omega
  -- the word stays
  · refine st_if (R := Ex) Sd (et_test (ev_neS (ev_reprS (ev_var (i := 6) rfl) sh) (ev_var (i := 7) rfl))) (fun z => by simp at z) fun _ H9 r9 S9 => ⟨(rb.trans ((RB.of_ex r8).trans rd)).trans (RB.of_ex r9), hk.ex r9, S9.weak ⟨rfl, trivial⟩⟩
end
/-! ### the head and the end -/
def mkD (x : Str) (i : Nat) : He.DefD := ⟨(x, none), x, x, defArgs (top i), defBody (top i), defScope (top i), [], []⟩
def fn : List He.DefD := [mkD "letter_at" 1, mkD "_law_hand" 3, mkD "_law_pick" 4, mkD "_law_of" 5, mkD "_law_walked" 6, mkD "_law_right" 7, mkD "law" 8]
def fa : List He.Fa := [.glo "letter_at", .glo "_law_hand", .glo "_law_pick", .glo "_law_of", .glo "_law_walked", .glo "_law_right", .glo "law", .free "len", .free "range", .free "isinstance", .free "int", .free "bool", .free "tuple", .free "repr"]
abbrev Rw : PySem.W.OpenRow := PySem.W.OpenLaw.row PySem.Challenge.rw_endlesshall_k02_letters_at_places
abbrev hk : PySem.W.Hook := He.hookD 4 fa fn
def ob (s : PySem.W.SharedT) : He.AlD := He.obsDG 4 fa fn (HandSHeadRun.getT s)
theorem ob_eq (s : PySem.W.SharedT) : ob s = hk.obs s.abs := He.obsDG_eq (HandSHeadRun.getT_eq s)
def names : List PySem.Str := ["letter_at", "_law_hand", "_law_pick", "_law_of", "_law_walked", "_law_right"]
theorem run (w : World) : HandSHeadRun.RunEq Rw (PySem.W.view Rw.prog [8]) hk ob 800 names w := by
  intro os
  kernel_rfl
theorem facts {P : Program} {w : World} {K : PySem.W.Frag} {h : Heap} {mg : Str → Option Value} {f : Addr} (X : K.In h) (G : h.Ns mainGlobals mg) (hfa : mg ("law" : Str) = some (.ref f)) (c : He.SaysD fa fn K) :
    ∃ fd : FuncData, (∀ (s : Shared) (v : Value), BindsTo s fd ⟨[v], []⟩ [("_law_script", v)]) ∧ ∀ base : Heap, K.In base → base.Ns mainGlobals mg → FnG P w K mg base CX0 3 f fd ["_law_script"] (spLaw K) := by
  obtain ⟨fd0, F0⟩ := c.def_ 0 (d := mkD "letter_at" 1) rfl
  obtain ⟨fd1, F1⟩ := c.def_ 1 (d := mkD "_law_hand" 3) rfl
  obtain ⟨fd2, F2⟩ := c.def_ 2 (d := mkD "_law_pick" 4) rfl
  obtain ⟨fd3, F3⟩ := c.def_ 3 (d := mkD "_law_of" 5) rfl
  obtain ⟨fd4, F4⟩ := c.def_ 4 (d := mkD "_law_walked" 6) rfl
  obtain ⟨fd5, F5⟩ := c.def_ 5 (d := mkD "_law_right" 7) rfl
  obtain ⟨fd6, F6⟩ := c.def_ 6 (d := mkD "law" 8) rfl
  have g : ∀ (i : Nat) (x : Str), fa[i]? = some (.glo x) → mg x = some (.ref (He.ga K x)) := fun i x e => He.glo_ok X G (c.fact i e)
  have m : ∀ (i : Nat) (x : Str), fa[i]? = some (.free x) → mg x = none := fun i x e => He.free_ok X G (c.fact i e)
  have e := hfa.symm.trans (g 6 "law" rfl)
  cases e
  have b0 : Binds K fd0 ["word", "k"] [] := F0.bindsN fun _ _ _ _ _ _ us hl => match us, hl with | [_, _], _ => rfl
  have b1 : Binds K fd1 ["_law_script"] [] := F1.bindsN fun _ _ _ _ _ _ us hl => match us, hl with | [_], _ => rfl
  have b2 : Binds K fd2 ["_law_hand_here", "_law_many"] [] := F2.bindsN fun _ _ _ _ _ _ us hl => match us, hl with | [_, _], _ => rfl
  have b3 : Binds K fd3 ["_law_hand_here", "_law_some"] [] := F3.bindsN fun _ _ _ _ _ _ us hl => match us, hl with | [_, _], _ => rfl
  have b4 : Binds K fd4 ["_law_word", "_law_upmost"] [] := F4.bindsN fun _ _ _ _ _ _ us hl => match us, hl with | [_, _], _ => rfl
  have b5 : Binds K fd5 ["_law_word", "_law_k", "_law_due"] [] := F5.bindsN fun _ _ _ _ _ _ us hl => match us, hl with | [_, _, _], _ => rfl
  have b6 := FunD.bindsA (ps := ["_law_script"]) F6 fun _ _ _ _ _ _ us hl => match us, hl with | [_], _ => rfl
  exact ⟨fd6, fun s v => b6 s [v] rfl, fun base _ _ => ok_law F6 F1 b1 (g 1 _ rfl) F2 b2 (g 2 _ rfl) F3 b3 (g 3 _ rfl) F4 b4 (g 4 _ rfl) F5 b5 (g 5 _ rfl)
    (ok_of F3 F2 b2 (g 2 _ rfl) (m 7 _ rfl)) (ok_right F5 F0 b0 (g 0 _ rfl) (m 7 _ rfl) (m 9 _ rfl) (m 10 _ rfl) (m 11 _ rfl)) (m 7 _ rfl) (m 8 _ rfl) (m 12 _ rfl) (m 13 _ rfl)⟩
end EK
open PySem PySem.W PySem.Calls PyProof.Rows
set_option maxHeartbeats 0 in
theorem PySem.Challenge.cw_endlesshall_k02_letters_at_places_holds : PySem.Challenge.rw_endlesshall_k02_letters_at_places.Holds := by
  w_on; o_law
  refine HandSHeadRun.head_any (r := EK.Rw) (q := view EK.Rw.prog [8]) (H := EK.hk) (ob := EK.ob) (M := 800) (loose := EK.names) (d := HandSHeadRun.topDef EK.Rw.prog 8) (kwd := []) EK.ob_eq
    (by kernel_rfl) (fun s => by kernel_rfl) EK.run (by kernel_rfl) (by kernel_rfl) (by kernel_rfl) (by rfl) (by first | assumption | decide +kernel) (by decide +kernel) ⟨rfl, rfl, rfl, rfl, rfl, by decide +kernel⟩ ?hw ?hc
  case hw => w_witness2
  case hc =>
    refine EL.walkG (l := PySem.Challenge.rw_endlesshall_k02_letters_at_places) (n := 63) (k := 3) (x := "_law_script") rfl (by decide) (by kernel_rfl) ⟨rfl, by decide, by decide⟩ ?F
    intro w mg fa h Y G hmg0
    obtain ⟨K, KX, c⟩ := Y
    have hmg : mg ("law" : PySem.Str) = some (.ref fa) := by
      have e : (HandSHeadRun.topDef EK.Rw.prog 8).name = ("law" : PySem.Str) := by kernel_rfl
      rw [← e]
      exact hmg0
    obtain ⟨fd, hb, hF⟩ := EK.facts (P := (PySem.Challenge.rw_endlesshall_k02_letters_at_places).prog) (w := w) KX G hmg c
    exact ⟨K, fd, EL.spLaw K, KX, hb, fun H a ns hl _ hS => ⟨a, ns, rfl, hS, hl, fun _ => rfl⟩, hF⟩

