import PyProof.Rows.All
import Wide.All
import OpenK.AllK
import Wide.FinOn
import KE.KStateDown
import Lean
import HandS.ForMost
import HandS.More
import HandS.WordsExc
import HandS.Defaults
import HandS.IsInst
import HandS.TupAny
import HandS.TupMul
import HandS.Head0
import HandS.Head1
import HandS.Head2
import HandS.HeadEnd
import HandS.HeadHook1
import HandS.HeadHook2
import PyProof.ListMulRoad
import KE.KUnpackStar
import PyProof.FactsAll.tuple_2
import HandS.Style
import HandS.Walk
import HandS.Codes
import KE.LtData
import HandS.Zip
import HandS.Deep
import HandS.TupSets
import HandS.SetKeys
import HandS.BoundDict
import KE.KeyNested
import KE.KDictKeyed
import HandS.CallLocal
import HandS.HeadHook3
import PyProof.WalksMore
import HandS.HeadHook4
import KE.GoesEnum
import KE.GoesMore
import HandS.SetBool
import HandS.Strs
import HandS.SetFor
import HandS.Conv
import PyProof.DictMoreH
import KE.KDictPairs
import HandS.DictComp
import HandS.SortKw
import KE.DataMinMax
import KE.KDictCopyH
import HandS.Rev
import HandS.OwnEq
import HandS.NamedTupGet
import PyProof.InstNe
import KE.KCallOwn
import HandS.MakeKwOnly
import HandS.Text
import HandS.RaiseMore
import HandS.FStr
import HandS.SortInts
import HandS.TupLen
import PyProof.Rows.TupDisplay
import HandS.DictTup
import HandS.SortOrd
import HandS.Iter
import PySem.Challenge.RW_endlesshall_k25_steps_of_one_letter_more
set_option Elab.async false
set_option linter.all false
set_option maxRecDepth 100000
set_option maxHeartbeats 4000000
set_option autoImplicit false
namespace EL
open PySem PySem.Spec PyProof.Rows L2
theorem mul_same (l : Addr) (its : Array Value) (n : Nat) (dd : Option Addr) (sl : Array (Option Value)) (x : Int) (u : Tok) (c0 : (decide (x < -(2 ^ 63)) || decide (x ≥ 2 ^ 63)) = false) (c1 : (its.isEmpty || x == 1) = true) :
    Meets (Builtin.«tuple.__mul__» ⟨[.ref l, .int x u], []⟩) (fun _ R s => s.heap.get? l = some { cls := .type "tuple", dict := dd, data := .seq its n, slots := sl } ∧ R (.ok (.ret (Value.ref l))) s) :=
  .of_wp fun prog w A R s h => by
    obtain ⟨hp, g, d, tk, os⟩ := s
    obtain ⟨hl, h⟩ := h
    have f1 := AutoSeq1.idx_int
    wp_walk using wpAny_loadPart' hl
    repeat (first
      | (refine wpAny_ite_false (decide_eq_false (by rw [c0]; exact Bool.false_ne_true)) ?_; wp_walk using wpAny_loadPart' hl)
      | (refine wpAny_ite_true (decide_eq_true c1) ?_; wp_walk using wpAny_loadPart' hl))
    exact ⟨_, rfl, h⟩
theorem mul_none (l : Addr) (its : Array Value) (n : Nat) (dd : Option Addr) (sl : Array (Option Value)) (x : Int) (u : Tok) (c0 : (decide (x < -(2 ^ 63)) || decide (x ≥ 2 ^ 63)) = false) (c1 : (its.isEmpty || x == 1) = false) (c2 : (decide (x ≤ 0) || its.isEmpty) = true) :
    Meets (Builtin.«tuple.__mul__» ⟨[.ref l, .int x u], []⟩) (fun _ R s => s.heap.get? l = some { cls := .type "tuple", dict := dd, data := .seq its n, slots := sl } ∧
      R (.ok (.ret (Value.ref s.heap.objs.size))) { s with heap := s.heap.push { cls := Value.type "tuple", data := Data.seq #[] }, toks := s.toks }) :=
  .of_wp fun prog w A R s h => by
    obtain ⟨hp, g, d, tk, os⟩ := s
    obtain ⟨hl, h⟩ := h
    have f1 := AutoSeq1.idx_int
    wp_walk using wpAny_loadPart' hl
    repeat (first
      | (refine wpAny_ite_false (decide_eq_false (by rw [c0]; exact Bool.false_ne_true)) ?_; wp_walk using wpAny_loadPart' hl)
      | (refine wpAny_ite_false (decide_eq_false (by rw [c1]; exact Bool.false_ne_true)) ?_; wp_walk using wpAny_loadPart' hl)
      | (refine wpAny_ite_true (decide_eq_true c2) ?_; wp_walk using wpAny_loadPart' hl))
    exact ⟨_, rfl, h⟩
def rRepA (K : PySem.W.Frag) : R2 := fun x y H Q => ∃ l k xs, x = .ref l ∧ y = .int k ∧ SqT K H l xs ∧ 0 ≤ k ∧ k ≤ 1000 ∧ xs.length ≤ 1000 ∧ ((xs = [] ∨ k = 1) → Q (.ref l) H) ∧
  (xs ≠ [] → k ≠ 1 → ∀ p, H p = none → Q (.ref p) (upd H p (.tup (List.replicate k.toNat xs).flatten)))
section
variable {X : Cx}
theorem op_repA : OpR X (binaryOp .Mult) (rRepA X.K) := by
  intro pins s σ H x y v u Q I rx ry h
  obtain ⟨l, k, xs, rfl, rfl, hT, k0, k1, hz, q1, q2⟩ := h
  by_cases hs : xs = [] ∨ k = 1
  · cases rx
    obtain ⟨t, rfl⟩ := ry
    obtain ⟨its, r, ⟨⟨cls, dd, data, sl⟩, ho, hc, n, hd⟩, hsz⟩ := I.tuple hT
    simp only at hc hd
    subst hc hd
    have c0 : (decide (k < -(2 ^ 63)) || decide (k ≥ 2 ^ 63)) = false := by
      rw [decide_eq_false (by omega), decide_eq_false (by omega)]; rfl
    have c1 : (its.toArray.isEmpty || k == 1) = true := by
      rcases hs with e | e
      · subst e
        have : its = [] := List.eq_nil_of_length_eq_zero r.length.symm
        subst this
        rfl
      · subst e
        exact Bool.or_true _
    exact wpAny_binaryOp_repeat_ref (T := "tuple") (U := "int") (by decide) ⟨_, ho, rfl⟩ (fun s' => typeIs_int s' k t) noFill_tuple_mul F.fills_int_mul F.slot_int_rmul repeat_tuple F.slot_int_index.lookup
      (call_meets F.slot_int_rmul (typeIs_int s k t) F.entry_int_rmul (F.args_int_rmul_2 _ _) (int_rmul_tuple k t l its.toArray n dd sl)
        ⟨ho, rfl, ⟨_, ho, rfl⟩, call_meets F.slot_tuple_mul ⟨_, ho, rfl⟩ F.entry_tuple_mul (F.args_tuple_mul_2 _ _) (mul_same l its.toArray n dd sl k t c0 c1) ⟨ho, ⟨.ref l, H, I, rfl, q1 hs⟩⟩⟩)
  · have hx : xs ≠ [] := fun e => hs (.inl e)
    have hk1 : k ≠ 1 := fun e => hs (.inr e)
    by_cases h2 : 2 ≤ k
    · exact op_repT pins s σ H _ _ v u Q I rx ry ⟨l, k, xs, rfl, rfl, hT, hx, h2, k1, hz, q2 hx hk1⟩
    · have e0 : k = 0 := by omega
      subst e0
      cases rx
      obtain ⟨t, rfl⟩ := ry
      obtain ⟨its, r, ⟨⟨cls, dd, data, sl⟩, ho, hc, n, hd⟩, hsz⟩ := I.tuple hT
      simp only at hc hd
      subst hc hd
      have hi : its.toArray.isEmpty = false := by
        cases its with
        | nil => exact absurd (List.eq_nil_of_length_eq_zero r.length) hx
        | cons a b => rfl
      refine wpAny_binaryOp_repeat_ref (T := "tuple") (U := "int") (by decide) ⟨_, ho, rfl⟩ (fun s' => typeIs_int s' 0 t) noFill_tuple_mul F.fills_int_mul F.slot_int_rmul repeat_tuple F.slot_int_index.lookup
        (call_meets F.slot_int_rmul (typeIs_int s 0 t) F.entry_int_rmul (F.args_int_rmul_2 _ _) (int_rmul_tuple 0 t l its.toArray n dd sl)
          ⟨ho, rfl, ⟨_, ho, rfl⟩, call_meets F.slot_tuple_mul ⟨_, ho, rfl⟩ F.entry_tuple_mul (F.args_tuple_mul_2 _ _) (mul_none l its.toArray n dd sl 0 t (by decide) (by rw [hi]; rfl) (by rw [hi]; rfl)) ⟨ho, ?_⟩⟩)
      refine ⟨.ref s.heap.objs.size, _, I.laid (t' := s.toks) (o := .tup []) (fun b ob z => Heap.get?_push_of_some _ z) (Nat.le_refl _) ?_, rfl, q2 hx hk1 _ (I.hok.fresh (Nat.le_refl _))⟩
      exact ⟨Nat.zero_le _, [], .nil, IsTup.new _ _⟩
end
section
variable {X : Cx}
end
end EL

set_option Elab.async false
set_option linter.all false
set_option maxRecDepth 100000
set_option maxHeartbeats 4000000
set_option autoImplicit false
namespace EL
open PySem PySem.Spec PyProof.Rows L2

def Ex (H H' : Hp) : Prop := ∀ a o, H a = some o → H' a = some o
theorem Ex.refl (H : Hp) : Ex H H := fun _ _ h => h
theorem Ex.trans {H H1 H2 : Hp} (a : Ex H H1) (b : Ex H1 H2) : Ex H H2 := fun x o h => b x o (a x o h)
theorem Ex.new {H : Hp} {p : Addr} {o : HO} (h : H p = none) : Ex H (upd H p o) := fun a u e => by
  rw [upd_ne (ne_of_none e h)]; exact e
theorem Ex.mut {H H' : Hp} {p : Addr} {o : HO} (e : Ex H H') (h : H p = none) : Ex H (upd H' p o) := fun a u ha => by
  rw [upd_ne (ne_of_none ha h)]; exact e a u ha
theorem Ex.free {H H' : Hp} (e : Ex H H') {p : Addr} (h : H' p = none) : H p = none := by
  cases q : H p with
  | none => rfl
  | some o => rw [e p o q] at h; cases h

abbrev Bn := Addr → Prop
structure RB (B : Bn) (H H' : Hp) : Prop where
  keep : ∀ a o, ¬ B a → H a = some o → H' a = some o
  tup : ∀ a xs, H a = some (.tup xs) → H' a = some (.tup xs)
  frz : ∀ a o u, H a = some (.frz o u) → H' a = some (.frz o u)
  ban : ∀ a, B a → H a ≠ none → H' a ≠ none
def BOk (B : Bn) (H : Hp) : Prop := ∀ a, B a → H a ≠ none
theorem RB.refl {B : Bn} (H : Hp) : RB B H H := ⟨fun _ _ _ h => h, fun _ _ h => h, fun _ _ _ h => h, fun _ _ h => h⟩
theorem RB.trans {B : Bn} {H H1 H2 : Hp} (a : RB B H H1) (b : RB B H1 H2) : RB B H H2 :=
  ⟨fun x o n h => b.keep x o n (a.keep x o n h), fun x o h => b.tup x o (a.tup x o h), fun x o u h => b.frz x o u (a.frz x o u h), fun x n h => b.ban x n (a.ban x n h)⟩
theorem RB.of_ex {B : Bn} {H H' : Hp} (e : Ex H H') : RB B H H' := ⟨fun a o _ h => e a o h, fun a o h => e a _ h, fun a o u h => e a _ h, fun a _ h => by
  cases q : H a with
  | none => exact absurd q h
  | some o => rw [e a o q]; exact fun z => nomatch z⟩
theorem RB.sub {B B' : Bn} {H H' : Hp} (s : ∀ a, B a → B' a) (r : RB B H H') : RB B' H H' := ⟨fun a o n h => r.keep a o (fun z => n (s a z)) h, r.tup, r.frz, fun a _ h => by
  rcases Classical.em (B a) with q | q
  · exact r.ban a q h
  · cases e : H a with
    | none => exact absurd e h
    | some o => rw [r.keep a o q e]; exact fun z => nomatch z⟩
theorem BOk.mono {B : Bn} {H H' : Hp} (o : BOk B H) (r : RB B H H') : BOk B H' := fun a b => r.ban a b (o a b)
theorem BOk.none {H : Hp} : BOk (fun _ => False) H := fun _ z => z.elim
theorem RB.sqT {B : Bn} {K : PySem.W.Frag} {H H' : Hp} {a : Addr} {xs : List V} (r : RB B H H') (h : SqT K H a xs) : SqT K H' a xs := by
  rcases h with (h | ⟨o, h⟩) | h
  · exact .inl (.inl (r.tup _ _ h))
  · exact .inl (.inr ⟨o, r.frz _ _ _ h⟩)
  · exact .inr h
theorem RB.sqL {B : Bn} {K : PySem.W.Frag} {H H' : Hp} {a : Addr} {xs : List V} (r : RB B H H') (n : ¬ B a) (h : SqL K H a xs) : SqL K H' a xs := by
  rcases h with (h | ⟨o, h⟩) | h
  · exact .inl (.inl (r.keep _ _ n h))
  · exact .inl (.inr ⟨o, r.frz _ _ _ h⟩)
  · exact .inr h
theorem Ex.sqT {K : PySem.W.Frag} {H H' : Hp} {a : Addr} {xs : List V} (r : Ex H H') (h : SqT K H a xs) : SqT K H' a xs := (RB.of_ex (B := fun _ => False) r).sqT h
theorem Ex.sqL {K : PySem.W.Frag} {H H' : Hp} {a : Addr} {xs : List V} (r : Ex H H') (h : SqL K H a xs) : SqL K H' a xs := (RB.of_ex (B := fun _ => False) r).sqL (fun z => z) h
theorem sqT_of {K : PySem.W.Frag} {H : Hp} {a : Addr} {xs : List V} (h : H a = some (.tup xs)) : SqT K H a xs := .inl (.inl h)
theorem sqL_of {K : PySem.W.Frag} {H : Hp} {a : Addr} {xs : List V} (h : H a = some (.lst xs)) : SqL K H a xs := .inl (.inl h)

class Rok (B : Bn) (R : Hp → Hp → Prop) : Prop where
  rf : ∀ H, R H H
  tr : ∀ {H H1 H2}, R H H1 → R H1 H2 → R H H2
  ex : ∀ {H H'}, Ex H H' → R H H'
  rb : ∀ {H H'}, R H H' → RB B H H'
instance {B : Bn} : Rok B Ex := ⟨Ex.refl, Ex.trans, id, RB.of_ex⟩
instance {B : Bn} : Rok B (RB B) := ⟨RB.refl, RB.trans, RB.of_ex, id⟩

abbrev PV := V → Hp → Prop
class Stb (B : Bn) (p : PV) : Prop where
  st : ∀ {H H' v}, RB B H H' → p v H → p v H'
def isP (v : V) : PV := fun x _ => x = v
instance {B : Bn} {v : V} : Stb B (isP v) := ⟨fun _ h => h⟩
def exP {α : Type} (C : α → Prop) (q : α → PV) : PV := fun v H => ∃ a, C a ∧ q a v H
instance {B : Bn} {α : Type} {C : α → Prop} {q : α → PV} [∀ a, Stb B (q a)] : Stb B (exP C q) := ⟨fun r ⟨a, c, h⟩ => ⟨a, c, Stb.st r h⟩⟩

section
variable (K : PySem.W.Frag) (B : Bn)
mutual
/-- v is the data d, whose lists are none of B -/
def im : PyData → PV
  | .none => isP .non
  | .bool b => isP (.bl b)
  | .int i => isP (.int i)
  | .str x => isP (.str x)
  | .tuple ds => fun v H => ∃ a vs, v = .ref a ∧ SqT K H a vs ∧ imAll ds vs H
  | .list ds => fun v H => ∃ a vs, v = .ref a ∧ ¬ B a ∧ SqL K H a vs ∧ imAll ds vs H
  | .dict _ => fun _ _ => False
def imAll : List PyData → List V → Hp → Prop
  | [], vs, _ => vs = []
  | d :: ds, vs, H => ∃ v r, vs = v :: r ∧ im d v H ∧ imAll ds r H
end
end
section
variable {K : PySem.W.Frag} {B : Bn} {H H' : Hp} {v : V} {d : PyData}
mutual
theorem im_st (r : RB B H H') : ∀ (d : PyData) (v : V), im K B d v H → im K B d v H'
  | .none, _, h => h
  | .bool _, _, h => h
  | .int _, _, h => h
  | .str _, _, h => h
  | .tuple ds, _, ⟨a, vs, e, s, q⟩ => ⟨a, vs, e, r.sqT s, imAll_st r ds vs q⟩
  | .list ds, _, ⟨a, vs, e, n, s, q⟩ => ⟨a, vs, e, n, r.sqL n s, imAll_st r ds vs q⟩
  | .dict _, _, h => h.elim
theorem imAll_st (r : RB B H H') : ∀ (ds : List PyData) (vs : List V), imAll K B ds vs H → imAll K B ds vs H'
  | [], _, h => h
  | d :: ds, _, ⟨v, w, e, h1, h2⟩ => ⟨v, w, e, im_st r d v h1, imAll_st r ds w h2⟩
end
instance : Stb B (im K B d) := ⟨fun r h => im_st r _ _ h⟩
theorem imAll_len : ∀ {ds : List PyData} {vs : List V}, imAll K B ds vs H → vs.length = ds.length
  | [], _, h => by rw [show _ = _ from h]; rfl
  | d :: ds, _, ⟨v, w, e, _, h2⟩ => by rw [e, List.length_cons, List.length_cons, imAll_len h2]
theorem imAll_get : ∀ {ds : List PyData} {vs : List V} {i : Nat} {d : PyData}, imAll K B ds vs H → ds[i]? = some d → ∃ v, vs[i]? = some v ∧ im K B d v H
  | [], _, _, _, _, e => by simp at e
  | d :: ds, _, 0, d', ⟨v, w, e, h1, h2⟩, e' => by
    simp at e'; subst e' e; exact ⟨v, rfl, h1⟩
  | d :: ds, _, i + 1, d', ⟨v, w, e, h1, h2⟩, e' => by
    subst e
    obtain ⟨x, e1, e2⟩ := imAll_get (i := i) h2 (by simpa using e')
    exact ⟨x, by simpa using e1, e2⟩
theorem imAll_getV : ∀ {ds : List PyData} {vs : List V} {i : Nat} {v : V}, imAll K B ds vs H → vs[i]? = some v → ∃ d, ds[i]? = some d ∧ im K B d v H
  | [], _, _, _, h, e => by rw [show _ = _ from h] at e; simp at e
  | d :: ds, _, 0, v', ⟨v, w, e, h1, h2⟩, e' => by
    subst e; simp at e'; subst e'; exact ⟨d, rfl, h1⟩
  | d :: ds, _, i + 1, v', ⟨v, w, e, h1, h2⟩, e' => by
    subst e
    obtain ⟨x, e1, e2⟩ := imAll_getV (i := i) h2 (by simpa using e')
    exact ⟨x, by simpa using e1, e2⟩
theorem imAll_append : ∀ {ds es : List PyData} {vs ws : List V}, imAll K B ds vs H → imAll K B es ws H → imAll K B (ds ++ es) (vs ++ ws) H
  | [], _, _, _, h, h' => by rw [show _ = _ from h]; exact h'
  | d :: ds, es, _, ws, ⟨v, w, e, h1, h2⟩, h' => by
    subst e; exact ⟨v, w ++ ws, rfl, h1, imAll_append h2 h'⟩
theorem imAll_snoc {ds : List PyData} {vs : List V} {d : PyData} {v : V} (h : imAll K B ds vs H) (h' : im K B d v H) : imAll K B (ds ++ [d]) (vs ++ [v]) H := imAll_append h ⟨v, [], rfl, h', rfl⟩
theorem imAll_take : ∀ {ds : List PyData} {vs : List V} (n : Nat), imAll K B ds vs H → imAll K B (ds.take n) (vs.take n) H
  | _, _, 0, _ => rfl
  | [], _, n + 1, h => by rw [show _ = _ from h]; rfl
  | d :: ds, _, n + 1, ⟨v, w, e, h1, h2⟩ => by subst e; exact ⟨v, _, rfl, h1, imAll_take n h2⟩
theorem imAll_drop : ∀ {ds : List PyData} {vs : List V} (n : Nat), imAll K B ds vs H → imAll K B (ds.drop n) (vs.drop n) H
  | _, _, 0, h => h
  | [], _, n + 1, h => by rw [show _ = _ from h]; rfl
  | d :: ds, _, n + 1, ⟨v, w, e, h1, h2⟩ => by subst e; exact imAll_drop n h2
theorem imAll_ints : ∀ {ns : List Int} {vs : List V}, imAll K B (ns.map .int) vs H ↔ vs = ns.map .int
  | [], vs => Iff.rfl
  | n :: ns, vs => by
    constructor
    · rintro ⟨v, w, e, h1, h2⟩
      rw [e, show v = .int n from h1, imAll_ints.mp h2]; rfl
    · intro e
      exact ⟨.int n, ns.map .int, e, rfl, imAll_ints.mpr rfl⟩
theorem imAll_bools : ∀ {bs : List Bool} {vs : List V}, imAll K B (bs.map .bool) vs H ↔ vs = bs.map .bl
  | [], vs => Iff.rfl
  | n :: ns, vs => by
    constructor
    · rintro ⟨v, w, e, h1, h2⟩
      rw [e, show v = .bl n from h1, imAll_bools.mp h2]; rfl
    · intro e
      exact ⟨.bl n, ns.map .bl, e, rfl, imAll_bools.mpr rfl⟩
mutual
theorem im_dp : ∀ (d : PyData) (v : V), im K B d v H → Dp K H v d
  | .none, _, h => by cases h; exact .non
  | .bool _, _, h => by cases h; exact .bl _
  | .int _, _, h => by cases h; exact .int _
  | .str _, _, h => by cases h; exact .str _
  | .tuple ds, _, ⟨a, vs, e, s, q⟩ => by subst e; exact .tup s (imAll_dp ds vs q)
  | .list ds, _, ⟨a, vs, e, n, s, q⟩ => by subst e; exact .lst s (imAll_dp ds vs q)
  | .dict _, _, h => h.elim
theorem imAll_dp : ∀ (ds : List PyData) (vs : List V), imAll K B ds vs H → DpAll K H vs ds
  | [], _, h => by rw [show _ = _ from h]; exact .nil
  | d :: ds, _, ⟨v, w, e, h1, h2⟩ => by subst e; exact .cons (im_dp d v h1) (imAll_dp ds w h2)
end
end

structure SD (B : Bn) (H : Hp) (σ : L2.St) (δ : List (Option PV)) : Prop where
  ok : BOk B H
  len : σ.length = δ.length
  at_ : ∀ (i : Nat) (p : PV), δ[i]? = some (some p) → Stb B p ∧ ∃ v, σ[i]? = some (some v) ∧ p v H
def wip (δ : List (Option PV)) : List Nat → List (Option PV)
  | [] => δ
  | v :: vs => (wip δ vs).set v none
section
variable {B : Bn} {H H' : Hp} {σ : L2.St} {δ : List (Option PV)} {p : PV} {v : V} {i : Nat}
theorem SD.mono (s : SD B H σ δ) (r : RB B H H') : SD B H' σ δ := ⟨s.ok.mono r, s.len, fun i p e => by
  obtain ⟨hp, v, h1, h2⟩ := s.at_ i p e
  exact ⟨hp, v, h1, hp.st r h2⟩⟩
theorem SD.set (s : SD B H σ δ) [hp : Stb B p] (h : p v H) : SD B H (σ.set i (some v)) (δ.set i (some p)) := by
  refine ⟨s.ok, by rw [List.length_set, List.length_set, s.len], fun j q e => ?_⟩
  by_cases hj : i = j
  · subst hj
    have hl : i < δ.length := by
      rcases Nat.lt_or_ge i δ.length with z | z
      · exact z
      · rw [List.getElem?_eq_none (by rw [List.length_set]; exact z)] at e; cases e
    rw [List.getElem?_set_self hl] at e
    cases e
    exact ⟨hp, v, List.getElem?_set_self (by rw [s.len]; exact hl), h⟩
  · rw [List.getElem?_set_ne hj] at e
    obtain ⟨hq, w, h1, h2⟩ := s.at_ j q e
    exact ⟨hq, w, by rw [List.getElem?_set_ne hj]; exact h1, h2⟩
theorem SD.unset (s : SD B H σ δ) {o : Option V} : SD B H (σ.set i o) (δ.set i none) := by
  refine ⟨s.ok, by rw [List.length_set, List.length_set, s.len], fun j q e => ?_⟩
  by_cases hj : i = j
  · subst hj
    have hl : i < δ.length := by
      rcases Nat.lt_or_ge i δ.length with z | z
      · exact z
      · rw [List.getElem?_eq_none (by rw [List.length_set]; exact z)] at e; cases e
    rw [List.getElem?_set_self hl] at e
    cases e
  · rw [List.getElem?_set_ne hj] at e
    obtain ⟨hq, w, h1, h2⟩ := s.at_ j q e
    exact ⟨hq, w, by rw [List.getElem?_set_ne hj]; exact h1, h2⟩
theorem SD.wipe (s : SD B H σ δ) : ∀ vs : List Nat, SD B H (wipe σ vs) (wip δ vs)
  | [] => s
  | v :: vs => (SD.wipe s vs).unset
def Weak : List (Option PV) → List (Option PV) → Prop
  | [], [] => True
  | _ :: a, none :: b => Weak a b
  | x :: a, y :: b => x = y ∧ Weak a b
  | _, _ => False
theorem Weak.len : ∀ {a b : List (Option PV)}, Weak a b → a.length = b.length
  | [], [], _ => rfl
  | _ :: a, none :: b, h => by rw [List.length_cons, List.length_cons, Weak.len (a := a) (b := b) h]
  | _ :: a, some _ :: b, h => by rw [List.length_cons, List.length_cons, Weak.len (a := a) (b := b) h.2]
  | [], _ :: _, h => h.elim
  | _ :: _, [], h => by cases h
theorem Weak.get : ∀ {a b : List (Option PV)} {i : Nat} {p : PV}, Weak a b → b[i]? = some (some p) → a[i]? = some (some p)
  | [], [], _, _, _, e => by simp at e
  | x :: a, none :: b, 0, p, _, e => by simp at e
  | x :: a, none :: b, i + 1, p, h, e => by
    have := Weak.get (a := a) (b := b) (i := i) (p := p) h (by simpa using e)
    simpa using this
  | x :: a, some y :: b, 0, p, h, e => by
    have e1 : y = p := by simpa using e
    rw [show x = some y from h.1, e1]; rfl
  | x :: a, some y :: b, i + 1, p, h, e => by
    have := Weak.get (a := a) (b := b) (i := i) (p := p) h.2 (by simpa using e)
    simpa using this
  | [], _ :: _, _, _, h, _ => h.elim
  | _ :: _, [], _, _, h, _ => by cases h
theorem SD.weak {δ' : List (Option PV)} (s : SD B H σ δ) (w : Weak δ δ') : SD B H σ δ' := ⟨s.ok, s.len.trans w.len, fun i p e => s.at_ i p (w.get e)⟩
theorem SD.get (s : SD B H σ δ) (e : δ[i]? = some (some p)) : ∃ v, σ[i]? = some (some v) ∧ p v H := (s.at_ i p e).2
end

section
variable (R : Hp → Hp → Prop) (B : Bn)
def Ev (te : TE) (δ : List (Option PV)) (H : Hp) (p : PV) : Prop := ∀ σ H1, R H H1 → SD B H1 σ δ → ∀ Q : VK, (∀ v H2, R H1 H2 → p v H2 → Q v H2) → te σ H1 Q
def EvT (tt : TT) (δ : List (Option PV)) (H : Hp) (b : Bool) : Prop := ∀ σ H1, R H H1 → SD B H1 σ δ → ∀ Q : Bool → Hp → Prop, (∀ H2, R H1 H2 → Q b H2) → tt σ H1 Q
def EvTx (tt : TT) (δ : List (Option PV)) (H : Hp) (C : Bool → Prop) : Prop := ∀ σ H1, R H H1 → SD B H1 σ δ → ∀ Q : Bool → Hp → Prop, (∀ b H2, C b → R H1 H2 → Q b H2) → tt σ H1 Q
def pAll : List PV → List V → Hp → Prop
  | [], vs, _ => vs = []
  | p :: ps, vs, H => ∃ v r, vs = v :: r ∧ p v H ∧ pAll ps r H
def EvA (ta : TA) (δ : List (Option PV)) (H : Hp) (ps : List PV) : Prop := ∀ σ H1, R H H1 → SD B H1 σ δ → ∀ Q : List V → Hp → Prop, (∀ vs H2, R H1 H2 → pAll ps vs H2 → Q vs H2) → ta σ H1 Q
def EvO (to : TO) (δ : List (Option PV)) (H : Hp) (o : Option Int) : Prop := ∀ σ H1, R H H1 → SD B H1 σ δ → ∀ Q : Option Int → Hp → Prop, (∀ H2, R H1 H2 → Q o H2) → to σ H1 Q
def RV (r : R2) (x y : V) (H : Hp) (p : PV) : Prop := ∀ Q : VK, (∀ v H2, Ex H H2 → p v H2 → Q v H2) → r x y H Q
def RC (r : List V → Hp → VK → Prop) (vs : List V) (H : Hp) (p : PV) : Prop := ∀ Q : VK, (∀ v H2, R H H2 → p v H2 → Q v H2) → r vs H Q
end
end EL

set_option Elab.async false
set_option linter.all false
set_option maxRecDepth 100000
set_option maxHeartbeats 4000000
set_option autoImplicit false
namespace EL
open PySem PySem.Spec PyProof.Rows L2
def rOr (r r' : R2) : R2 := fun x y H Q => r x y H Q ∨ r' x y H Q
def rSlOr (r r' : V → Option Int → Option Int → Hp → VK → Prop) : V → Option Int → Option Int → Hp → VK → Prop := fun x lo hi H Q => r x lo hi H Q ∨ r' x lo hi H Q
def iOr (w w' : TI) : TI := fun σ H R => w σ H R ∨ w' σ H R
def rAddS : R2 := fun x y H Q => ∃ i j : Str, x = .str i ∧ y = .str j ∧ i.length + j.length ≤ sizeLine ∧ Q (.str (i ++ j)) H
def rAddU (K : PySem.W.Frag) : R2 := rOr (rI0 fun i j => .int (i + j)) (rOr (rCatA K) (rOr rCat rAddS))
def rMulU (K : PySem.W.Frag) : R2 := rOr (rI CMul fun i j => .int (i * j)) (rOr (rRepA K) rRep)
def rEqU (K : PySem.W.Frag) : R2 := rOr (rEqD K) rEq
def rNeU (K : PySem.W.Frag) : R2 := rOr (rNeD K) rNe
def rSlU (K : PySem.W.Frag) : V → Option Int → Option Int → Hp → VK → Prop := rSlOr (rSlL K) (rSlA K)
def iSeqU (K : PySem.W.Frag) (t : TE) : TI := iOr (iList K t) (iTup K t)
section
variable {X : Cx}
theorem op_or {f : Value → Value → Sem Value} {r r' : R2} (h : OpR X f r) (h' : OpR X f r') : OpR X f (rOr r r') := fun pins s σ H x y v u Q I rx ry q => by
  rcases q with q | q
  · exact h pins s σ H x y v u Q I rx ry q
  · exact h' pins s σ H x y v u Q I rx ry q
theorem op_addU : OpR X (binaryOp .Add) (rAddU X.K) := op_or op_add (op_or op_catA (op_or op_cat op_add_str))
theorem op_mulU : OpR X (binaryOp .Mult) (rMulU X.K) := op_or op_mul (op_or op_repA op_rep)
theorem op_eqU (hu : X.A.units + 64 < cLine) : OpR X (compareOp .Eq) (rEqU X.K) := op_or (op_eqD hu) op_eq
theorem op_neU (hu : X.A.units + 64 < cLine) : OpR X (compareOp .NotEq) (rNeU X.K) := op_or (op_neD hu) op_ne
theorem sl_seqU : SlR X (rSlU X.K) := SlR.or sl_list sl_tupA
theorem pi_or {tg l : Expr} {w w' : TI} (h : PI X tg l w) (h' : PI X tg l w') : PI X tg l (iOr w w') := ⟨fun pins s σ H R I q => by
  rcases q with q | q
  · exact h.run pins s σ H R I q
  · exact h'.run pins s σ H R I q⟩
theorem pi_seqU {tg l : Expr} {t : TE} (h : PE X l t) : PI X tg l (iSeqU X.K t) := pi_or (pi_list h) (pi_tup h)
end

section
variable {R : Hp → Hp → Prop} {B : Bn} [rk : Rok B R] {K : PySem.W.Frag} {δ : List (Option PV)} {H H' : Hp} {ta tb tc te : TE} {p q w : PV} {tt tu : TT}
theorem Ev.at_ (h : Ev R B te δ H p) (r : R H H') : Ev R B te δ H' p := fun σ H2 r2 => h σ H2 (rk.tr r r2)
theorem EvT.at_ {b : Bool} (h : EvT R B tt δ H b) (r : R H H') : EvT R B tt δ H' b := fun σ H2 r2 => h σ H2 (rk.tr r r2)
theorem Ev.conv (h : Ev R B te δ H p) (c : ∀ v H1, R H H1 → p v H1 → q v H1) : Ev R B te δ H q := fun σ H1 r S Q k => h σ H1 r S Q fun v H2 r2 pv => k v H2 r2 (c v H2 (rk.tr r r2) pv)
theorem Ev.is (h : Ev R B te δ H p) (e : p = q) : Ev R B te δ H q := e ▸ h
theorem ev_var {i : Nat} (h : δ[i]? = some (some p)) : Ev R B (tVar i) δ H p := fun σ H1 r S Q k => let ⟨v, e, pv⟩ := S.get h; ⟨v, e, k v H1 (rk.rf H1) pv⟩
theorem ev_c {v : V} : Ev R B (tC v) δ H (isP v) := fun σ H1 r S Q k => k v H1 (rk.rf H1) rfl
theorem ev_int {i : Int} : Ev R B (tC (.int i)) δ H (im K B (.int i)) := ev_c
theorem ev_str {x : Str} : Ev R B (tC (.str x)) δ H (im K B (.str x)) := ev_c
theorem ev_non : Ev R B (tC .non) δ H (im K B .none) := ev_c
theorem ev_op {r : R2} [Stb B p] (ha : Ev R B ta δ H p) (hb : Ev R B tb δ H q) (hr : ∀ x y H1, R H H1 → BOk B H1 → p x H1 → q y H1 → RV r x y H1 w) : Ev R B (tOp r ta tb) δ H w :=
  fun σ H1 r1 S Q k => ha σ H1 r1 S _ fun x H2 r2 px => hb σ H2 (rk.tr r1 r2) (S.mono (rk.rb r2)) _ fun y H3 r3 qy =>
    hr x y H3 (rk.tr (rk.tr r1 r2) r3) (S.ok.mono ((rk.rb r2).trans (rk.rb r3))) (Stb.st (rk.rb r3) px) qy Q fun v H4 e4 wv => k v H4 (rk.tr (rk.tr r2 r3) (rk.ex e4)) wv
theorem atI_im {ds : List PyData} {vs : List V} {i : Int} {d : PyData} (h : imAll K B ds vs H) (e : atI ds i = some d) : ∃ v, atI vs i = some v ∧ im K B d v H := by
  unfold atI at e ⊢
  rw [imAll_len h]
  cases q : ixN ds.length i with
  | none => rw [q] at e; cases e
  | some j =>
    rw [q] at e
    obtain ⟨v, e1, e2⟩ := imAll_get h (show ds[j]? = some d from e)
    exact ⟨v, e1, e2⟩
theorem ea_nil : EvA R B tNil δ H [] := fun σ H1 r S Q k => k [] H1 (rk.rf H1) rfl
theorem ea_cons {tr : TA} {ps : List PV} [Stb B p] (h : Ev R B ta δ H p) (hr : EvA R B tr δ H ps) : EvA R B (tCons ta tr) δ H (p :: ps) := fun σ H1 r S Q k =>
  h σ H1 r S _ fun v H2 r2 pv => hr σ H2 (rk.tr r r2) (S.mono (rk.rb r2)) _ fun vs H3 r3 pr => k (v :: vs) H3 (rk.tr r2 r3) ⟨v, vs, rfl, Stb.st (rk.rb r3) pv, pr⟩
theorem ev_cb {r : List V → Hp → VK → Prop} {ta : TA} {ps : List PV} (h : EvA R B ta δ H ps) (hr : ∀ vs H1, R H H1 → BOk B H1 → pAll ps vs H1 → RC R r vs H1 w) : Ev R B (tCB r ta) δ H w := fun σ H1 r1 S Q k =>
  h σ H1 r1 S _ fun vs H2 r2 pr => hr vs H2 (rk.tr r1 r2) (S.ok.mono (rk.rb r2)) pr Q fun v H3 r3 wv => k v H3 (rk.tr r2 r3) wv
theorem imAll_of_pAll : ∀ {ds : List PyData} {vs : List V}, pAll (ds.map (im K B)) vs H → imAll K B ds vs H
  | [], _, h => h
  | d :: ds, _, ⟨v, r, e, h1, h2⟩ => ⟨v, r, e, h1, imAll_of_pAll h2⟩
theorem not_ban {p : Addr} (o : BOk B H) (h : H p = none) : ¬ B p := fun b => o p b h
theorem ev_tup {ta : TA} {ds : List PyData} (h : EvA R B ta δ H (ds.map (im K B))) (hl : ds.length ≤ sizeLine) : Ev R B (tTup ta) δ H (im K B (.tuple ds)) := fun σ H1 r1 S Q k =>
  h σ H1 r1 S _ fun vs H2 r2 pr => by
    have hv := imAll_of_pAll pr
    refine ⟨by rw [imAll_len hv]; exact hl, fun a ha => k _ _ (rk.tr r2 (rk.ex (Ex.new ha))) ⟨a, vs, rfl, sqT_of upd_same, imAll_st (RB.of_ex (Ex.new ha)) _ _ hv⟩⟩
def rLenQ (K : PySem.W.Frag) : List V → Hp → VK → Prop := fun xs H Q => ∃ p ys, xs = [.ref p] ∧ (SqL K H p ys ∨ SqT K H p ys) ∧ Q (.int ys.length) H
def rTupQ (K : PySem.W.Frag) : List V → Hp → VK → Prop := fun xs H Q => ∃ p ys, xs = [.ref p] ∧ ((SqL K H p ys ∧ ∀ l, H l = none → Q (.ref l) (upd H l (.tup ys))) ∨ (SqT K H p ys ∧ Q (.ref p) H))
def rListQ (K : PySem.W.Frag) : List V → Hp → VK → Prop := fun xs H Q => ∃ p ys, xs = [.ref p] ∧ (SqL K H p ys ∨ SqT K H p ys) ∧ ∀ l, H l = none → Q (.ref l) (upd H l (.lst ys))
theorem imAll_rep {ds : List PyData} {vs : List V} (h : imAll K B ds vs H) : ∀ n : Nat, imAll K B (List.replicate n ds).flatten (List.replicate n vs).flatten H
  | 0 => rfl
  | n + 1 => by
    rw [List.replicate_succ, List.replicate_succ, List.flatten_cons, List.flatten_cons]
    exact imAll_append h (imAll_rep h n)
theorem et_test {b : Bool} (h : Ev R B te δ H (im K B (.bool b))) : EvT R B (tTest te) δ H b := fun σ H1 r S Q k => h σ H1 r S _ fun v H2 r2 e => ⟨b, e, k H2 r2⟩
theorem et_B {b : Bool} (h : Ev R B te δ H (im K B (.bool b))) : EvT R B (tB te) δ H b := fun σ H1 r S Q k => h σ H1 r S _ fun v H2 r2 e => ⟨b, e, k H2 r2⟩
theorem et_not {b : Bool} (h : EvT R B tt δ H b) : EvT R B (tNot tt) δ H (!b) := fun σ H1 r S Q k => h σ H1 r S _ fun H2 r2 => k H2 r2
theorem et_and {a b : Bool} (h1 : EvT R B tt δ H a) (h2 : a = true → EvT R B tu δ H b) : EvT R B (tAnd tt tu) δ H (a && b) := fun σ H1 r S Q k => h1 σ H1 r S _ fun H2 r2 => by
  cases a with
  | true => exact h2 rfl σ H2 (rk.tr r r2) (S.mono (rk.rb r2)) Q fun H3 r3 => k H3 (rk.tr r2 r3)
  | false => exact k H2 r2
theorem et_or {a b : Bool} (h1 : EvT R B tt δ H a) (h2 : a = false → EvT R B tu δ H b) : EvT R B (tOr tt tu) δ H (a || b) := fun σ H1 r S Q k => h1 σ H1 r S _ fun H2 r2 => by
  cases a with
  | true => exact k H2 r2
  | false => exact h2 rfl σ H2 (rk.tr r r2) (S.mono (rk.rb r2)) Q fun H3 r3 => k H3 (rk.tr r2 r3)
theorem EvT.is {a b : Bool} (h : EvT R B tt δ H a) (e : a = b) : EvT R B tt δ H b := e ▸ h
theorem ev_and {a b : Bool} (h1 : Ev R B ta δ H (im K B (.bool a))) (h2 : a = true → Ev R B tb δ H (im K B (.bool b))) : Ev R B (tAndV ta tb) δ H (im K B (.bool (a && b))) := fun σ H1 r S Q k => h1 σ H1 r S _ fun v H2 r2 e => ⟨a, e, by
  cases a with
  | true => exact h2 rfl σ H2 (rk.tr r r2) (S.mono (rk.rb r2)) Q fun v H3 r3 e => k v H3 (rk.tr r2 r3) e
  | false => exact k _ H2 r2 rfl⟩
theorem ev_or {a b : Bool} (h1 : Ev R B ta δ H (im K B (.bool a))) (h2 : a = false → Ev R B tb δ H (im K B (.bool b))) : Ev R B (tOrV ta tb) δ H (im K B (.bool (a || b))) := fun σ H1 r S Q k => h1 σ H1 r S _ fun v H2 r2 e => ⟨a, e, by
  cases a with
  | true => exact k _ H2 r2 rfl
  | false => exact h2 rfl σ H2 (rk.tr r r2) (S.mono (rk.rb r2)) Q fun v H3 r3 e => k v H3 (rk.tr r2 r3) e⟩
theorem ev_not {a : Bool} (h1 : Ev R B ta δ H (im K B (.bool a))) : Ev R B (tNotV ta) δ H (im K B (.bool (!a))) := fun σ H1 r S Q k => h1 σ H1 r S _ fun v H2 r2 e => ⟨a, e, k _ H2 r2 rfl⟩
theorem ev_if {b : Bool} (h : EvT R B tt δ H b) (h1 : b = true → Ev R B ta δ H p) (h2 : b = false → Ev R B tb δ H p) : Ev R B (tIf tt ta tb) δ H p := fun σ H1 r S Q k => h σ H1 r S _ fun H2 r2 => by
  cases b with
  | true => exact h1 rfl σ H2 (rk.tr r r2) (S.mono (rk.rb r2)) Q fun v H3 r3 pv => k v H3 (rk.tr r2 r3) pv
  | false => exact h2 rfl σ H2 (rk.tr r r2) (S.mono (rk.rb r2)) Q fun v H3 r3 pv => k v H3 (rk.tr r2 r3) pv
end

section
variable {R : Hp → Hp → Prop} {B : Bn} [rk : Rok B R] {K : PySem.W.Frag} {δ : List (Option PV)} {H H' : Hp} {ta tb tc te : TE} {p q w : PV} {tt tu : TT} {D : Ends} {σ : L2.St} {t u : TS} {i j l : Nat}
end
end EL

set_option Elab.async false
set_option linter.all false
set_option maxRecDepth 100000
set_option maxHeartbeats 4000000
set_option autoImplicit false
namespace EL
open PySem PySem.Spec PyProof.Rows L2
def pureSp {α : Type} (K : PySem.W.Frag) (args : α → List PyData) (pre : α → Prop) (res : α → PyData) : Sp := fun vs H Q _ =>
  ∃ (B : Bn) (a : α), BOk B H ∧ imAll K B (args a) vs H ∧ pre a ∧ ∀ v H', Ex H H' → im K B (res a) v H' → Q v H'
theorem pureSp.len {α : Type} {K : PySem.W.Frag} {args : α → List PyData} {pre : α → Prop} {res : α → PyData} {n : Nat} (h : ∀ a, (args a).length = n) {vs : List V} {H : Hp} {Q : VK} {E : XK} (q : pureSp K args pre res vs H Q E) : vs.length = n := by
  obtain ⟨B, a, _, h1, _⟩ := q
  rw [imAll_len h1]; exact h a
theorem SD.start {K : PySem.W.Frag} {B : Bn} {H : Hp} {N : List Str} {ds : List PyData} {vs : List V} (o : BOk B H) (h : imAll K B ds vs H) :
    SD B H (start N vs) (ds.map (fun d => some (im K B d)) ++ List.replicate (N.length - ds.length) none) := by
  have hl := imAll_len h
  refine ⟨o, ?_, fun i p e => ?_⟩
  · unfold L2.start
    rw [List.length_append, List.length_append, List.length_map, List.length_map, List.length_replicate, List.length_replicate, hl]
  · by_cases hi : i < ds.length
    · rw [List.getElem?_append_left (by rw [List.length_map]; exact hi), List.getElem?_map, List.getElem?_eq_getElem hi] at e
      have e2 : im K B ds[i] = p := by simpa using e
      obtain ⟨v, h1, h2⟩ := imAll_get h (List.getElem?_eq_getElem hi)
      subst e2
      refine ⟨inferInstance, v, ?_, h2⟩
      unfold L2.start
      rw [List.getElem?_append_left (by rw [List.length_map, hl]; exact hi), List.getElem?_map, h1]
      rfl
    · rw [List.getElem?_append_right (by rw [List.length_map]; omega), List.getElem?_replicate] at e
      split at e <;> simp at e
section
variable {R : Hp → Hp → Prop} {B : Bn} [rk : Rok B R] {K : PySem.W.Frag} {δ : List (Option PV)} {H H' : Hp}
theorem ev_call {α : Type} {args : α → List PyData} {pre : α → Prop} {res : α → PyData} {E : XK} {ta : TA} (a : α) (h : EvA R B ta δ H ((args a).map (im K B))) (hp : pre a) :
    Ev R B (tCall (pureSp K args pre res) [] E ta) δ H (im K B (res a)) := fun σ H1 r S Q k =>
  h σ H1 r S _ fun vs H2 r2 pr => by
    show pureSp K args pre res (vs ++ []) H2 Q E
    rw [List.append_nil]
    exact ⟨B, a, S.ok.mono (rk.rb r2), imAll_of_pAll pr, hp, fun v H3 e3 hv => k v H3 (rk.tr r2 (rk.ex e3)) hv⟩
end
abbrev tI (ns : List Int) : PyData := .tuple (ns.map .int)
abbrev wd (b r : List Int) : PyData := .tuple [tI b, tI r]
def letterAt (b r : List Int) (k : Int) : Int := if k < b.length then b.getD k.toNat 0 else r.getD ((k - b.length) % r.length).toNat 0
end EL

set_option Elab.async false
set_option linter.all false
set_option maxRecDepth 100000
set_option maxHeartbeats 4000000
set_option autoImplicit false
namespace EL
open PySem PySem.Spec PyProof.Rows L2
mutual
def plain : PyData → Bool
  | .none => true
  | .bool _ => true
  | .int _ => true
  | .str _ => true
  | .tuple ds => plainAll ds
  | .list _ => false
  | .dict _ => false
def plainAll : List PyData → Bool
  | [] => true
  | d :: ds => plain d && plainAll ds
end
structure TK (H H' : Hp) : Prop where
  tup : ∀ a xs, H a = some (.tup xs) → H' a = some (.tup xs)
  frz : ∀ a o u, H a = some (.frz o u) → H' a = some (.frz o u)
theorem RB.tk {B : Bn} {H H' : Hp} (r : RB B H H') : TK H H' := ⟨r.tup, r.frz⟩
theorem TK.sqT {K : PySem.W.Frag} {H H' : Hp} {a : Addr} {xs : List V} (r : TK H H') (h : SqT K H a xs) : SqT K H' a xs := by
  rcases h with (h | ⟨o, h⟩) | h
  · exact .inl (.inl (r.tup _ _ h))
  · exact .inl (.inr ⟨o, r.frz _ _ _ h⟩)
  · exact .inr h
theorem TK.upd {H : Hp} {a : Addr} {xs : List V} {o : HO} (h : H a = some (.lst xs)) : TK H (upd H a o) :=
  ⟨fun b ys e => by rw [upd_ne (ne_of e h (by intro z; cases z))]; exact e, fun b ob u e => by rw [upd_ne (ne_of e h (by intro z; cases z))]; exact e⟩
section
variable {K : PySem.W.Frag} {B B' : Bn} {H H' : Hp}
end
class Rmk (R : Hp → Hp → Prop) : Prop where
  new : ∀ {H H' p o}, R H H' → H p = none → R H (upd H' p o)
instance : Rmk Ex := ⟨fun r h => r.mut h⟩
instance {B : Bn} : Rmk (RB B) := ⟨fun {H H' p o} r h => ⟨fun a u n e => by rw [upd_ne (ne_of_none e h)]; exact r.keep a u n e, fun a u e => by rw [upd_ne (ne_of_none e h)]; exact r.tup a u e,
  fun a ob u e => by rw [upd_ne (ne_of_none e h)]; exact r.frz a ob u e, fun a b n => by
    by_cases q : a = p
    · subst q; exact absurd h n
    · rw [upd_ne q]; exact r.ban a b n⟩⟩

def cut {α : Type} (xs : List α) (lo hi : Option Int) : List α := (xs.drop (HT.sIx xs.length 0 lo)).take (HT.sIx xs.length xs.length hi - HT.sIx xs.length 0 lo)
theorem cutV_im {K : PySem.W.Frag} {B : Bn} {H : Hp} {ds : List PyData} {vs : List V} {lo hi : Option Int} (h : imAll K B ds vs H) : imAll K B (cut ds lo hi) (cutV vs lo hi) H := by
  unfold cut cutV
  rw [imAll_len h]
  exact imAll_take _ (imAll_drop _ h)
section
variable {R : Hp → Hp → Prop} {B : Bn} [rk : Rok B R] {K : PySem.W.Frag} {δ : List (Option PV)} {H : Hp} {te : TE} {tl th : TO} {lo hi : Option Int}
theorem eo_none : EvO R B tNoPart δ H none := fun σ H1 r S Q k => k H1 (rk.rf H1)
theorem eo_some {i : Int} (h : Ev R B te δ H (im K B (.int i))) : EvO R B (tPart te) δ H (some i) := fun σ H1 r S Q k => h σ H1 r S _ fun v H2 r2 e => ⟨i, e, k H2 r2⟩
end
theorem cut_upto {α : Type} {xs : List α} {n : Nat} : cut xs none (some (n : Int)) = xs.take n := by
  unfold cut
  rw [HT.sIx_none, HT.sIx_nat, List.drop_zero, Nat.sub_zero]
  rcases Nat.le_total n xs.length with h | h
  · rw [Nat.min_eq_left h]
  · rw [Nat.min_eq_right h, List.take_length, List.take_of_length_le h]
theorem cut_from {α : Type} {xs : List α} {n : Nat} : cut xs (some (n : Int)) none = xs.drop n := by
  unfold cut
  rw [HT.sIx_none, HT.sIx_nat]
  rcases Nat.le_total n xs.length with h | h
  · rw [Nat.min_eq_left h, List.take_of_length_le (by rw [List.length_drop]; omega)]
  · rw [Nat.min_eq_right h, Nat.sub_self, List.take_zero, List.drop_of_length_le h]
section
variable (R : Hp → Hp → Prop) (B : Bn)
def Src (wi : TI) (δ : List (Option PV)) (H : Hp) (n : Nat) (Y : Nat → PV) : Prop := ∀ σ H1, R H H1 → SD B H1 σ δ → ∀ Q : It → Hp → Prop,
  (∀ (J : It) (G : Hp → Prop) (H2 : Hp), R H1 H2 → Walk J n G (fun i Ha x Hb => Ex Ha Hb ∧ Y i x Hb) → (∀ H3, RB B H2 H3 → G H3) → Q J H2) → wi σ H1 Q
end
section
variable {R : Hp → Hp → Prop} {B : Bn} [rk : Rok B R] {K : PySem.W.Frag} {δ : List (Option PV)} {H : Hp} {ta tb : TE}
theorem getD_im {ds : List PyData} {vs : List V} {i : Nat} {v : V} (h : imAll K B ds vs H) (e : vs[i]? = some v) : im K B (ds.getD i .none) v H := by
  obtain ⟨d, e1, e2⟩ := imAll_getV h e
  rw [List.getD_eq_getElem?_getD, e1]
  exact e2
theorem src_range1 {n : Int} (h : Ev R B ta δ H (im K B (.int n))) (h1 : -(2 ^ 62) ≤ n) (h2 : n < 2 ^ 62) : Src R B (iRng1 (tCons ta tNil)) δ H n.toNat (fun i => im K B (.int i)) := fun σ H1 r S Q k =>
  h σ H1 r S _ fun v H2 r2 e => ⟨n, by rw [show v = _ from e], h1, h2, k _ (fun _ => True) H2 r2 (walk_range.mono (fun _ z => z) fun i Ha x Hb _ _ y => ⟨by rw [y.1]; exact Ex.refl _, by rw [y.2]; show V.int (0 + (i : Int)) = V.int _; rw [Int.zero_add]⟩) fun _ _ => trivial⟩
end
section
variable {R : Hp → Hp → Prop} {B : Bn} [rk : Rok B R] [rm : Rmk R] {K : PySem.W.Frag} {δ : List (Option PV)} {H : Hp}
def newL (K : PySem.W.Frag) (B : Bn) (H : Hp) (ds : List PyData) : PV := fun v Hc => ∃ a vs, v = .ref a ∧ H a = none ∧ ¬ B a ∧ Hc a = some (.lst vs) ∧ imAll K B ds vs Hc
instance {H : Hp} {ds : List PyData} : Stb B (newL K B H ds) := ⟨fun r ⟨a, vs, e, n, nb, h, q⟩ => ⟨a, vs, e, n, nb, r.keep _ _ nb h, imAll_st r _ _ q⟩⟩
theorem newL.im {H0 Hc : Hp} {ds : List PyData} {v : V} (h : newL K B H0 ds v Hc) : im K B (.list ds) v Hc := by
  obtain ⟨a, vs, e, n, nb, h, q⟩ := h
  exact ⟨a, vs, e, nb, sqL_of h, q⟩
theorem RB.fresh {H H' : Hp} {a : Addr} (r : RB B H H') (n : H' a = none) : H a = none := by
  cases e : H a with
  | none => rfl
  | some o =>
    rcases Classical.em (B a) with b | b
    · exact absurd n (r.ban a b (by rw [e]; exact fun z => nomatch z))
    · rw [r.keep a o b e] at n; cases n
theorem ev_lstN {ta : TA} {ds : List PyData} (h : EvA R B ta δ H (ds.map (EL.im K B))) (hl : ds.length ≤ sizeLine) : Ev R B (tLst ta) δ H (newL K B H ds) := fun σ H1 r1 S Q k =>
  h σ H1 r1 S _ fun vs H2 r2 pr => by
    have hv := imAll_of_pAll pr
    refine ⟨by rw [imAll_len hv]; exact hl, fun a ha => k _ _ (rk.tr r2 (rk.ex (Ex.new ha))) ⟨a, vs, rfl, RB.fresh (rk.rb (rk.tr r1 r2)) ha, not_ban (S.ok.mono (rk.rb r2)) ha, upd_same, imAll_st (RB.of_ex (Ex.new ha)) _ _ hv⟩⟩
end
end EL

set_option Elab.async false
set_option linter.all false
set_option maxRecDepth 100000
set_option maxHeartbeats 4000000
set_option autoImplicit false
namespace EL
open PySem PySem.Spec PyProof.Rows L2
abbrev big61 : Int := 2305843009213693951
structure HandOk (h l : Addr) (H : Hp) : Prop where
  ne : h ≠ l
  top : ∃ seed : Int, H h = some (.lst [.ref l, .int seed]) ∧ 0 ≤ seed ∧ seed < big61
  cells : ∃ cs : List Int, H l = some (.lst (cs.map .int)) ∧ (∀ c ∈ cs, 0 ≤ c) ∧ cs.length ≤ 63
def hB (h l : Addr) : Bn := fun a => a = h ∨ a = l
structure Rh (h l : Addr) (H H' : Hp) : Prop where
  rb : RB (hB h l) H H'
  ok : HandOk h l H → HandOk h l H'
class Has (B : Bn) (h l : Addr) : Prop where
  h1 : B h
  h2 : B l
instance {h l : Addr} : Has (hB h l) h l := ⟨.inl rfl, .inr rfl⟩
theorem HandOk.ex {h l : Addr} {H H' : Hp} (e : Ex H H') (o : HandOk h l H) : HandOk h l H' := by
  obtain ⟨n, ⟨s, e1, b1⟩, ⟨cs, e2, b2⟩⟩ := o
  exact ⟨n, ⟨s, e _ _ e1, b1⟩, ⟨cs, e _ _ e2, b2⟩⟩
instance {B : Bn} {h l : Addr} [hs : Has B h l] : Rok B (Rh h l) where
  rf := fun H => ⟨RB.refl H, id⟩
  tr := fun a b => ⟨a.rb.trans b.rb, fun o => b.ok (a.ok o)⟩
  ex := fun e => ⟨RB.of_ex e, fun o => o.ex e⟩
  rb := fun r => r.rb.sub fun a z => by
    rcases z with rfl | rfl
    · exact hs.h1
    · exact hs.h2
theorem HandOk.upd {h l p : Addr} {H : Hp} {o : HO} (k : HandOk h l H) (n1 : h ≠ p) (n2 : l ≠ p) : HandOk h l (upd H p o) := by
  obtain ⟨n, ⟨s, e1, b1⟩, ⟨cs, e2, b2⟩⟩ := k
  exact ⟨n, ⟨s, by rw [upd_ne n1]; exact e1, b1⟩, ⟨cs, by rw [upd_ne n2]; exact e2, b2⟩⟩
theorem HandOk.at1 {h l : Addr} {H : Hp} (k : HandOk h l H) : H h ≠ none := by
  obtain ⟨n, ⟨s, e1, b1⟩, _⟩ := k
  rw [e1]; exact fun z => nomatch z
theorem HandOk.at2 {h l : Addr} {H : Hp} (k : HandOk h l H) : H l ≠ none := by
  obtain ⟨n, _, ⟨cs, e2, b2⟩⟩ := k
  rw [e2]; exact fun z => nomatch z
instance {h l : Addr} : Rmk (Rh h l) := ⟨fun {H H' p o} r n => ⟨Rmk.new r.rb n, fun k => (r.ok k).upd (fun e => k.at1 (e ▸ n)) fun e => k.at2 (e ▸ n)⟩⟩
def intP (C : Int → Prop) : PV := fun v _ => ∃ i, C i ∧ v = .int i
instance {B : Bn} {C : Int → Prop} : Stb B (intP C) := ⟨fun _ h => h⟩
section
variable {B : Bn} {h l : Addr} [hs : Has B h l] {K : PySem.W.Frag} {δ : List (Option PV)} {H : Hp} {ta tb : TE} {E : XK}
end
section
variable {R : Hp → Hp → Prop} {B : Bn} [rk : Rok B R] {K : PySem.W.Frag} {δ : List (Option PV)} {H : Hp} {ta tb : TE} {C D : Int → Prop}
end
end EL

set_option Elab.async false
set_option linter.all false
set_option maxRecDepth 100000
set_option maxHeartbeats 4000000
set_option autoImplicit false
namespace EL
open PySem PySem.Spec PyProof.Rows L2
section
variable {R : Hp → Hp → Prop} {B : Bn} [rk : Rok B R] {K : PySem.W.Frag} {δ : List (Option PV)} {H : Hp} {ta tb to ti te : TE} {D : Ends} {σ : L2.St} {p : PV}
theorem Ev.lst {a : Addr} {vs : List V} {ds : List PyData} (ha : Ev Ex (fun _ => False) ta δ H (isP (.ref a))) (hl : H a = some (.lst vs)) (hv : imAll K (fun _ => False) ds vs H) : Ev Ex (fun _ => False) ta δ H (im K (fun _ => False) (.list ds)) :=
  ha.conv fun v H1 r1 e => ⟨a, vs, e, fun z => z, sqL_of (r1 _ _ hl), imAll_st (RB.of_ex r1) _ _ hv⟩
end
section
variable {B : Bn} {K : PySem.W.Frag} {δ : List (Option PV)} {H : Hp} {ta : TE}
end
theorem canLayAll_ints : ∀ ns : List Int, PyData.canLayAll0 (ns.map .int) = true
  | [] => by rfl
  | n :: ns => by
    have := canLayAll_ints ns
    simp only [List.map_cons, PyData.canLayAll0, PyData.canLay0, this, Bool.and_self]
theorem depthAll_ints : ∀ ns : List Int, PyData.depthAll (ns.map .int) ≤ 1
  | [] => by simp [PyData.depthAll]
  | n :: ns => by
    have := depthAll_ints ns
    simp only [List.map_cons, PyData.depthAll, PyData.depth]
    omega
theorem shaped_ints (ns : List Int) : SeqAt.shaped (.list (ns.map .int)) = true := by
  unfold SeqAt.shaped
  have h1 := canLayAll_ints ns
  have h2 := depthAll_ints ns
  simp only [PyData.canLay0, h1, PyData.depth, Bool.true_and]
  exact decide_eq_true (by omega)
end EL

set_option Elab.async false
set_option linter.all false
set_option maxRecDepth 100000
set_option maxHeartbeats 4000000
set_option autoImplicit false
namespace EL
open PySem PySem.Spec PyProof.Rows L2
structure FnG (P : Program) (w : World) (K : PySem.W.Frag) (mg : Str → Option Value) (bs : Heap) (CX : CXT) (k : Nat) (f : Addr) (fd : FuncData) (ps : List Str) (sp : Sp) : Prop where
  len : ∀ vs H Q E, sp vs H Q E → vs.length = ps.length
  run : ∀ (A : Around) (o : List Env) (s : Shared) (H : Hp) (ar : Args) (us : List Value) (vs : List V) (Q : VK) (E : XK),
    A.guards = some [] → Room k A → Env0 P w K mg bs A o s H → BindsTo s fd ar (ps.zip us) → Vals vs us → sp vs H Q E →
    codeAny (model P w) A (.call (.ref f) ar) (CR CX o P w H s Q E) s
theorem FnG.of {P : Program} {w : World} {K : PySem.W.Frag} {mg : Str → Option Value} {bs : Heap} {CX : CXT} {k : Nat} {f : Addr} {fd : FuncData} {ps : List Str} {sp : Sp}
    (F : FnOk P w K mg bs CX k f fd ps sp) : FnG P w K mg bs CX k f fd ps sp := ⟨F.len, fun A o s H ar us vs Q E _ => F.run A o s H ar us vs Q E⟩
section
variable {P : Program} {w : World} {K : PySem.W.Frag} {mg : Str → Option Value} {bs : Heap} {CX : CXT} {x qu : Str} {pa : Arguments} {bo : List Stmt} {sc : Scope} {dv : List V} {kw : List (Str × V)} {f : Addr} {fd : FuncData}
theorem okG {N ps : List Str} {k : Nat} {sp : Sp} (F : FunD K x qu pa bo sc dv kw f fd) (S : FnScope N ps sc)
    (hlen : ∀ vs H Q E, sp vs H Q E → vs.length = ps.length)
    (hb : ∀ (cv : Value) (A : Around) (o : List Env) (s : Shared) (H : Hp) (vs : List V) (Q : VK) (E : XK), A.guards = some [] →
      Room k (A.deeper (envOfC qu sc s.heap.objs.size f cv)) → sp vs H Q E →
      ∃ t, PSs (cxOf CX P w K mg bs N qu sc f cv A o s H E) bo t ∧ t ⟨fun _ H' => Q .non H', Q, fun _ _ => False, fun _ _ => False⟩ (start N vs) H) :
    FnG P w K mg bs CX (k + 1) f fd ps sp := by
  obtain ⟨oc, od, dV, kV, doc, pm, an, cv, ct, osl, rfl, hlk, hcd, _, _⟩ := F.ex
  refine ⟨hlen, fun A o s H ar us vs Q E gd rm en bd rv hsp => ?_⟩
  have hKin : K.In s.heap := en.mod.kin.keeps fun c z q => (en.bs c z q).1
  have hLim : s.heap.NoLimit := en.mod.nolimit.keeps fun c z q => (en.bs c z q).1
  have hkd : ∀ y ∈ ps.zip us, sc.names.lookup y.1 = some .local ∨
      (sc.names.lookup y.1 = some .cell ∧ ((cellsFrom (s.heap.objs.size + 1) sc.names []).lookup y.1).isSome = true) := by
    rintro ⟨nm, vl⟩ hy
    rcases S.par nm (List.of_mem_zip hy).1 with z | z
    · left; exact z
    · right; exact ⟨z, PySem.W.cellsFrom_some _ _ _ (.inl z)⟩
  refine codeAny_call_function rm.depth (hKin _ _ hlk) rfl S.co S.gen rfl (PySem.W.codeRec_of hKin hcd) (bd _ _ _ _ ?_)
  refine wpAny_newFunctionEnv_cells S.kind hkd fun ev hev s2 xx => ?_
  subst hev
  refine ⟨hLim.keeps xx.toInCall.keep, codeAny_func ?_⟩
  obtain ⟨t, ht, hq⟩ := hb cv A o s H vs Q E gd (rm.deeper _) hsp
  have II : Inv (cxOf CX P w K mg bs N qu sc f cv A o s H E) [] (start N vs) H s2 := inv_start S rm.hd en (hlen _ _ _ _ hsp) rv xx
  refine wpAny_mono (ht.run [] s2 (start N vs) H _ II hq) (fun fl s3 hs => ?_) fun e s3 hs => hs
  cases fl with
  | ret u => obtain ⟨v, σ', H', J, r2, z⟩ := hs; exact ⟨v, H', J.os, J.bare, J.base, J.hok, r2, z⟩
  | next => obtain ⟨σ', H', J, z⟩ := hs; exact ⟨.non, H', J.os, J.bare, J.base, J.hok, rfl, z⟩
  | brk => obtain ⟨_, _, _, z⟩ := hs; cases z
  | cont => obtain ⟨_, _, _, z⟩ := hs; cases z
end
section
variable {X : Cx} {CX : CXT} {k : Nat} {f : Addr} {fd : FuncData} {ps : List Str} {sp : Sp} {E : XK} {x : Str} {p pos : Pos} {e : Expr} {es : List Expr} {t : TA}
theorem pe_callG (F : FnG X.prog X.w X.K X.mg X.base CX k f fd ps sp) (gd : X.A.guards = some []) (rm : Room k X.A) (hg : Gl X x) (hm : X.mg x = some (.ref f)) (hk : PySem.W.keepIn X.K (.ref f) = true)
    (bd : Binds X.K fd ps []) (hx : Passes CX X E) (ha : PA X (e :: es) t) (d1 : (x == ("__debug__" : Str)) = false := by decide)
    (d2 : starEach (e :: es) X.env = (false, eval e X.env) :: starEach es X.env := by rfl) (d3 : (backTo pos (starEach es X.env)).any (·.1) = false := by rfl) :
    PE X (.Call (.Name x p) (e :: es) [] pos) (tCall sp [] E t) := by
  refine ⟨fun pins s σ H Q I h => wpAny_Call_Name_kw (ld_glob I hg hm ?_ d1)⟩
  refine PySem.W.callWith_K (h₀ := X.base) I.ok.mod.kin hk (thn (ha.run pos pins s σ H _ I h) ?_) d2 d3
  rintro us s1 ⟨vs, H1, I1, rv, q⟩
  refine ⟨I1.kIn, ?_⟩
  have q : sp (vs ++ []) H1 Q E := q
  rw [List.append_nil] at q
  have hl : (us ++ []).length = ps.length := by rw [List.append_nil, ← rv.length]; exact F.len _ _ _ _ q
  have bb := bd s1 us I1.kIn hl
  rw [List.append_nil] at bb
  refine wpAny_call (codeAny_mono (F.run X.A X.stack s1 H1 ⟨us, []⟩ us vs Q E gd rm I1.env0 bb rv q) fun r s2 hq => ?_)
  match r, hq with
  | .error er, hq => exact hx pins σ H1 s1 er s2 I1 hq
  | .ok (.ret u), hq => exact I1.after hq
def rReprD (K : PySem.W.Frag) : List V → Hp → VK → Prop := fun xs H Q => ∃ v d, xs = [v] ∧ Dp K H v d ∧ d.showable = true ∧ d.hasDict = false ∧ d.depth ≤ 64 ∧ d.shown.length ≤ sizeLine ∧ Q (.str d.shown) H
theorem call_reprD (gd : X.A.guards = some []) (hu : X.A.units + 66 < cLine) : CallR X (.builtin "repr") (rReprD X.K) := by
  intro pins s σ H xs us Q I r h
  obtain ⟨v, d, rfl, hd, sh, nd, dp, sz, q⟩ := h
  obtain ⟨u, rfl, ru⟩ := vals1 r
  obtain ⟨as, rd⟩ := Dp.reads I d v u hd ru
  have fin : ∀ (h' : Heap) (t : Tok) (tk : Nat), (∀ b o, s.heap.get? b = some o → h'.get? b = some o) → EP X pins σ Q (.str d.shown t) { s with heap := h', toks := tk } := fun h' t tk hk => ⟨.str d.shown, H, I.kept hk, ⟨t, rfl⟩, q⟩
  cases hd with
  | lst a b => cases ru; exact repr_of_reads' rd sh (PyData.noDict_hsm nd) gd (by omega) (fun _ _ z => z) fin sz
  | tup a b => cases ru; exact repr_of_reads' rd sh (PyData.noDict_hsm nd) gd (by omega) (fun _ _ z => z) fin sz
  | non => cases ru; rw [PyData.shown_none] at fin; exact PySem.P.repr_of_none (fin s.heap _ _ fun _ _ z => z)
  | bl b => cases ru; rw [PyData.shown_bool] at fin; exact PySem.P.repr_of_bool (by cases b <;> exact fin s.heap _ _ fun _ _ z => z)
  | int i => obtain ⟨t, rfl⟩ := ru; rw [PyData.shown_int] at fin; exact PySem.P.repr_of_int (by simpa [PyData.showable] using sh) (fin s.heap _ _ fun _ _ z => z)
  | str z => obtain ⟨t, rfl⟩ := ru; rw [PyData.shown_str] at fin sz; exact PySem.P.repr_of_str (fin s.heap _ _ fun _ _ z => z) sz
end
section
variable {P : Program} {w : World} {K : PySem.W.Frag} {mg mb : Str → Option Value} {k : Nat} {fa a : Addr} {fd : FuncData} {x : Str} {sp : Sp} {s1 : Shared} {vs : List Value} {ns : List Int}
theorem callG_core (hr : Room k callerA) (F : ∀ bs : Heap, K.In bs → bs.Ns mainGlobals mg → FnG P w K mg bs CX0 k fa fd [x] sp) (hbd : ∀ (s : Shared) (u : Value), BindsTo s fd ⟨[u], []⟩ [(x, u)])
    (KX : K.In s1.heap) (n1 : s1.heap.Ns mainGlobals mg) (n2 : s1.heap.Ns builtinsNs mb) (n3 : ∀ x : Str, x ≠ "__name__" → mb x = bootBuiltins x) (n4 : s1.heap.NoLimit) (n5 : s1.gens = #[])
    (ha : s1.heap.get? a = some { cls := .type "list", data := .seq vs.toArray }) (H : Hp) (hO : Only H) (hok : HOk P w H s1.heap) (hA : ∀ b, H b ≠ none → b = a) (hK : H a ≠ none → K.lookup a = none)
    (hsp : sp [.ref a] H (fun v _ => v = .bl true) fun _ _ _ => False) :
    codeAny (model P w) callerA (.call (.ref fa) ⟨[.ref a], []⟩) (fun r s' => r = .ok (.ret (.bool true)) ∧ OldK s1.heap s'.heap ∧ s'.os = s1.os ∧ AllBare s'.gens) s1 := by
  have noD : ∀ (b : Addr) (o : Obj) (es : Array DictEntry) (ep : Nat), s1.heap.get? b = some o → o.data = .dict es ep → H b = none := by
    intro b o es ep e d
    by_cases z : H b = none
    · exact z
    · rw [hA b z, ha] at e
      cases e
      exact nomatch (show Data.seq vs.toArray _ = Data.dict es ep from d)
  have nsB : ∀ (b : Addr) (m : Str → Option Value), s1.heap.Ns b m → (hidT s1.heap H).Ns b m := by
    rintro b m ⟨o, es, ep, e, d, rest⟩
    exact ⟨o, es, ep, hidT_get e (noD b o es ep e d), d, rest⟩
  have inB : K.In (hidT s1.heap H) := by
    intro b o e
    refine hidT_get (KX b o e) ?_
    by_cases z : H b = none
    · exact z
    · have eb := hA b z
      rw [eb] at z e
      rw [hK z] at e
      cases e
  obtain ⟨mc, l1, l2⟩ := n4
  have md : Mod K mg (hidT s1.heap H) := ⟨inB, nsB _ _ n1, ⟨mb, nsB _ _ n2, n3⟩, ⟨mc, nsB _ _ l1, l2⟩⟩
  have en : Env0 P w K mg (hidT s1.heap H) callerA [] s1 H :=
    ⟨rfl, md, fun b o e => of_hidT e, Nat.le_of_eq (hidT_size _ _), trivial, fun b z => (nomatch (show b ∈ ([] : List Addr) from z)), hok, AllBare.of_eq n5⟩
  refine codeAny_mono ((F _ inB (nsB _ _ n1)).run callerA [] s1 H ⟨[.ref a], []⟩ [.ref a] [.ref a] _ _ rfl hr en (hbd s1 (.ref a)) (.cons rfl .nil) hsp) fun r s' h => ?_
  match r, h with
  | .error e, h => exact h.elim
  | .ok (.ret u), h =>
    obtain ⟨v, H', os, bare, un, hok2, r2, q⟩ := h
    cases (show v = .bl true from q)
    cases (show u = Value.bool true from r2)
    refine ⟨rfl, OldK.of_keep fun b o e => ?_, os, bare⟩
    rcases hO b with z | ⟨ob, xs, z⟩
    · exact un.keep b o e z (fun q => nomatch (show b ∈ ([] : List Addr) from q)) (fun q => nomatch q)
    · obtain ⟨e1, _⟩ := hok b _ z
      obtain ⟨e2, _⟩ := hok2 b _ (un.frzs b ob _ z)
      rw [e] at e1; cases e1
      exact e2
theorem callG (hr : Room k callerA) (F : ∀ bs : Heap, K.In bs → bs.Ns mainGlobals mg → FnG P w K mg bs CX0 k fa fd [x] sp) (hbd : ∀ (s : Shared) (u : Value), BindsTo s fd ⟨[u], []⟩ [(x, u)])
    (KX : K.In s1.heap) (n1 : s1.heap.Ns mainGlobals mg) (n2 : s1.heap.Ns builtinsNs mb) (n3 : ∀ x : Str, x ≠ "__name__" → mb x = bootBuiltins x) (n4 : s1.heap.NoLimit) (n5 : s1.gens = #[])
    (ha : s1.heap.get? a = some { cls := .type "list", data := .seq vs.toArray }) (hi : IntsAre vs ns) (hl : ns.length ≤ sizeLine)
    (hsp : ∀ H : Hp, Only H → SqL K H a (ns.map V.int) → sp [.ref a] H (fun v _ => v = .bl true) fun _ _ _ => False) :
    codeAny (model P w) callerA (.call (.ref fa) ⟨[.ref a], []⟩) (fun r s' => r = .ok (.ret (.bool true)) ∧ OldK s1.heap s'.heap ∧ s'.os = s1.os ∧ AllBare s'.gens) s1 := by
  have rv := vals_ints hi
  have lv := hi.length
  by_cases hk : K.lookup a = none
  · let H : Hp := fun b => if b = a then some (.frz { cls := .type "list", data := .seq vs.toArray } (.lst (ns.map V.int))) else none
    have at1 : H a = some (.frz { cls := .type "list", data := .seq vs.toArray } (.lst (ns.map V.int))) := if_pos rfl
    have at2 : ∀ b, b ≠ a → H b = none := fun b n => if_neg n
    have only : Only H := fun b => by
      by_cases hb : b = a
      · rw [hb]; exact .inr ⟨_, _, at1⟩
      · exact .inl (at2 b hb)
    refine callG_core hr F hbd KX n1 n2 n3 n4 n5 ha H only (fun b u z => ?_) (fun b z => ?_) (fun _ => hk) (hsp H only (.inl (.inr ⟨_, at1⟩)))
    · by_cases hb : b = a
      · rw [hb, at1] at z
        cases z
        rw [hb]
        exact ⟨ha, by rw [List.length_map]; exact hl, vs, _, rv, ha⟩
      · rw [at2 b hb] at z; cases z
    · by_cases hb : b = a
      · exact hb
      · exact absurd (at2 b hb) z
  · obtain ⟨o, ho⟩ := Option.ne_none_iff_exists'.mp hk
    have e := KX a o ho
    rw [ha] at e
    cases e
    have only : Only (fun _ => none) := fun _ => .inl rfl
    exact callG_core hr F hbd KX n1 n2 n3 n4 n5 ha (fun _ => none) only (fun b u z => nomatch (show (none : Option HO) = some u from z)) (fun b z => absurd rfl z) (fun z => absurd rfl z)
      (hsp _ only (.inr ⟨_, vs.toArray, _, ho, rfl, rfl, rfl, by rw [List.size_toArray, lv]; exact hl, by simpa using rv⟩))
end
theorem walkG {l : PySem.W.OpenLaw} {n k : Nat} {q : Program} {ls : List Str} {XP : (Str → Option Value) → Heap → Prop} {YP : World → Heap → Prop} {d : DefRec} {x : Str}
    (hn : l.most = some n) (hn2 : n ≤ sizeLine) (hdf : d.params.defaults = []) (hr : Room k callerA)
    (F : ∀ (w : World) (mg : Str → Option Value) (fa : Addr) (h : Heap), YP w h → h.Ns mainGlobals mg → mg d.name = some (.ref fa) →
      ∃ (K : PySem.W.Frag) (fd : FuncData) (sp : Sp), K.In h ∧ (∀ (s : Shared) (u : Value), BindsTo s fd ⟨[u], []⟩ [(x, u)]) ∧
        (∀ (H : Hp) (a : Addr) (ns : List Int), ns.length ≤ n → Only H → SqL K H a (ns.map V.int) → sp [.ref a] H (fun v _ => v = .bl true) fun _ _ _ => False) ∧
        ∀ bs : Heap, K.In bs → bs.Ns mainGlobals mg → FnG l.prog w K mg bs CX0 k fa fd [x] sp) :
    PySem.W.WalkO q ls XP YP l.row.toRowW d [] (fun f vs => PySem.call f vs) := by
  refine Att.attach_call hn hdf ?_
  intro w s0 s1 mg mb fa o pm cd doc a vs ns G Y ho hd hcd hmg hobj hints hlen hg
  obtain ⟨K, fd, sp, KX, hb, hsp, hF⟩ := F w mg fa _ Y G.T.g hmg
  exact callG hr hF hb KX G.T.g G.T.b G.T.builtins G.T.nolimit hg hobj hints (Nat.le_trans hlen hn2) (fun H hO hS => hsp H a ns hlen hO hS)
end EL

set_option Elab.async false
set_option linter.all false
set_option maxRecDepth 100000
set_option maxHeartbeats 4000000
set_option autoImplicit false
namespace EL
open PySem PySem.Spec PyProof.Rows L2
theorem rm66 {k : Nat} {A : Around} (r : Room k A) : A.units + 66 < cLine := by have := r.un; omega
def Cv (B' : Bn) (H : Hp) : List (Option PV) → List (Option PV) → Prop
  | [], [] => True
  | _ :: a, none :: b => Cv B' H a b
  | some p :: a, some q :: b => (∀ v, p v H → q v H) ∧ Stb B' q ∧ Cv B' H a b
  | _, _ => False
theorem Cv.len {B' : Bn} {H : Hp} : ∀ {a b : List (Option PV)}, Cv B' H a b → a.length = b.length
  | [], [], _ => rfl
  | _ :: a, none :: b, h => by rw [List.length_cons, List.length_cons, Cv.len (a := a) (b := b) (by cases ‹Option PV› <;> exact h)]
  | some _ :: a, some _ :: b, h => by rw [List.length_cons, List.length_cons, Cv.len (a := a) (b := b) h.2.2]
  | none :: _, some _ :: _, h => h.elim
  | [], _ :: _, h => h.elim
  | _ :: _, [], h => by cases ‹Option PV› <;> cases h
theorem Cv.get {B' : Bn} {H : Hp} : ∀ {a b : List (Option PV)} {i : Nat} {q : PV}, Cv B' H a b → b[i]? = some (some q) → Stb B' q ∧ ∃ p, a[i]? = some (some p) ∧ ∀ v, p v H → q v H
  | [], [], _, _, _, e => by simp at e
  | x :: a, none :: b, 0, q, _, e => by simp at e
  | x :: a, none :: b, i + 1, q, h, e => by
    have := Cv.get (a := a) (b := b) (i := i) (q := q) (by cases x <;> exact h) (by simpa using e)
    simpa using this
  | some x :: a, some y :: b, 0, q, h, e => by
    have e1 : y = q := by simpa using e
    subst e1
    exact ⟨h.2.1, x, rfl, h.1⟩
  | some x :: a, some y :: b, i + 1, q, h, e => by
    have := Cv.get (a := a) (b := b) (i := i) (q := q) h.2.2 (by simpa using e)
    simpa using this
  | none :: _, some _ :: _, _, _, h, _ => h.elim
  | [], _ :: _, _, _, h, _ => h.elim
  | _ :: _, [], _, _, h, _ => by cases ‹Option PV› <;> cases h
theorem SD.cv {B B' : Bn} {H : Hp} {σ : L2.St} {δ δ' : List (Option PV)} (s : SD B H σ δ) (o : BOk B' H) (c : Cv B' H δ δ') : SD B' H σ δ' := ⟨o, s.len.trans c.len, fun i q e => by
  obtain ⟨hq, p, e1, h⟩ := c.get e
  obtain ⟨v, e2, pv⟩ := s.get e1
  exact ⟨hq, v, e2, h v pv⟩⟩
abbrev own1 (p : Addr) : Bn := fun a => a = p
theorem own1.ok {p : Addr} {H : Hp} {o : HO} (h : H p = some o) : BOk (own1 p) H := fun a z => by rw [z, h]; exact fun q => nomatch q
theorem RB.own {p : Addr} {H0 H Hc : Hp} (e : Ex H0 H) (n : H0 p = none) (r : RB (own1 p) H Hc) : Ex H0 Hc := fun a o h => r.keep a o (fun z => by rw [show a = p from z, n] at h; cases h) (e a o h)
section
variable {B : Bn} {K : PySem.W.Frag} {δ : List (Option PV)} {H : Hp} {te : TE} {q : PV} {D : Ends} {σ : L2.St}
end
section
variable {R : Hp → Hp → Prop} {B : Bn} [rk : Rok B R] {K : PySem.W.Frag} {δ : List (Option PV)} {H : Hp} {ta tb te : TE} {C : Int → Prop}
end
def tyName : PyData → String
  | .none => "NoneType"
  | .bool _ => "bool"
  | .int _ => "int"
  | .str _ => "str"
  | .list _ => "list"
  | .tuple _ => "tuple"
  | .dict _ => "dict"
theorem im_ty {K : PySem.W.Frag} {B : Bn} {H : Hp} : ∀ {d : PyData} {v : V}, im K B d v H → TyX K H v (.type (tyName d))
  | .none, _, h => by cases (show _ = _ from h); exact .base .non
  | .bool _, _, h => by cases (show _ = _ from h); exact .base (.bl _)
  | .int _, _, h => by cases (show _ = _ from h); exact .base (.int _)
  | .str _, _, h => by cases (show _ = _ from h); exact .base (.str _)
  | .tuple ds, _, ⟨a, vs, e, s, _⟩ => by
    subst e
    rcases s with (s | ⟨o, s⟩) | ⟨o, its, n, h1, h2, _⟩
    · exact .base (.tup s)
    · exact .fTuple s
    · exact .kTuple h1 h2
  | .list ds, _, ⟨a, vs, e, _, s, _⟩ => by
    subst e
    rcases s with (s | ⟨o, s⟩) | ⟨o, its, n, h1, h2, _⟩
    · exact .base (.lst s)
    · exact .base (.frz s)
    · exact .kList h1 h2
  | .dict _, _, h => h.elim
theorem ev_isi {R : Hp → Hp → Prop} {B : Bn} [rk : Rok B R] {K : PySem.W.Frag} {δ : List (Option PV)} {H : Hp} {te : TE} {d : PyData} {T : String} {b : Bool} (he : Ev R B te δ H (im K B d)) (hb : kitB (tyName d) T = some b) :
    Ev R B (tCB (rIsi K) (tCons te (tCons (tC (.ty T)) tNil))) δ H (im K B (.bool b)) :=
  ev_cb (ea_cons he (ea_cons (ev_c (v := .ty T)) ea_nil)) fun vs H1 _ _ ⟨v, r, e, hv, v2, r2, e2, hv2, e3⟩ Q k => by
    subst e e2; cases (show r2 = [] from e3); cases (show v2 = _ from hv2)
    exact ⟨v, .ty T, _, _, b, rfl, .ty T, im_ty hv, kit_ty hb, k _ H1 (rk.rf H1) rfl⟩
end EL

set_option Elab.async false
set_option linter.all false
set_option maxRecDepth 100000
set_option maxHeartbeats 4000000
set_option autoImplicit false
namespace EL
open PySem PySem.Spec PyProof.Rows L2
section
variable {R : Hp → Hp → Prop} {B : Bn} [rk : Rok B R] {K : PySem.W.Frag} {δ : List (Option PV)} {H : Hp} {ta tb te : TE} {D : Ends} {σ : L2.St} {i j : Nat}
end
structure Shows (d : PyData) : Prop where
  s1 : d.showable = true
  s2 : d.hasDict = false
  s3 : d.depth ≤ 64
  s4 : d.shown.length ≤ sizeLine
end EL

set_option Elab.async false
set_option linter.all false
set_option maxRecDepth 100000
set_option maxHeartbeats 4000000
set_option autoImplicit false
namespace EL
open PySem PySem.Spec PyProof.Rows L2
abbrev sq (b r : List Int) : Nat → Int := fun n => letterAt b r (n : Int)
def Per (f : Nat → Int) (n p : Nat) : Prop := ∀ i, n ≤ i → f (i + p) = f i
structure Canon (f : Nat → Int) (a p : Nat) : Prop where
  pos : 1 ≤ p
  per : Per f a p
  minp : ∀ q n, 1 ≤ q → Per f n q → p ≤ q
  mina : ∀ n, Per f n p → a ≤ n
theorem least {P : Nat → Prop} (h : ∃ n, P n) : ∃ n, P n ∧ ∀ m, P m → n ≤ m := by
  obtain ⟨n, hn⟩ := h
  induction n using Nat.strongRecOn with
  | _ n ih =>
    rcases Classical.em (∃ m, m < n ∧ P m) with ⟨m, hm, pm⟩ | z
    · exact ih m hm pm
    · exact ⟨n, hn, fun m pm => Nat.le_of_not_lt fun q => z ⟨m, q, pm⟩⟩
theorem Canon.uniq {f : Nat → Int} {a p a' p' : Nat} (h : Canon f a p) (h' : Canon f a' p') : a = a' ∧ p = p' := by
  have e : p = p' := Nat.le_antisymm (h.minp _ _ h'.pos h'.per) (h'.minp _ _ h.pos h.per)
  subst e
  exact ⟨Nat.le_antisymm (h.mina _ h'.per) (h'.mina _ h.per), rfl⟩
theorem Canon.ex {f : Nat → Int} {n q : Nat} (hq : 1 ≤ q) (h : Per f n q) : ∃ a p, Canon f a p := by
  obtain ⟨p, ⟨p1, m, pm⟩, hp⟩ := least (P := fun p => 1 ≤ p ∧ ∃ m, Per f m p) ⟨q, hq, n, h⟩
  obtain ⟨a, pa, ha⟩ := least (P := fun a => Per f a p) ⟨m, pm⟩
  exact ⟨a, p, p1, pa, fun q n q1 pq => hp q ⟨q1, n, pq⟩, ha⟩
theorem Per.up {f : Nat → Int} {n m p : Nat} (h : Per f n p) (hm : n ≤ m) : Per f m p := fun i hi => h i (by omega)
structure Short (r r0 : List Int) : Prop where
  ne : r0 ≠ []
  le : r0.length ≤ r.length
  same : sq [] r0 = sq [] r
  minp : ∀ q n, 1 ≤ q → Per (sq [] r) n q → r0.length ≤ q
end EL

set_option Elab.async false
set_option linter.all false
set_option maxRecDepth 100000
set_option maxHeartbeats 4000000
set_option autoImplicit false
namespace EL
open PySem PySem.Spec PyProof.Rows L2
def relSp {α β : Type} (K : PySem.W.Frag) (args : α → List PyData) (pre : α → Prop) (C : α → β → Prop) (res : β → PyData) : Sp := fun vs H Q _ =>
  ∃ (B : Bn) (a : α), BOk B H ∧ imAll K B (args a) vs H ∧ pre a ∧ ∀ b v H', C a b → Ex H H' → im K B (res b) v H' → Q v H'
theorem relSp.len {α β : Type} {K : PySem.W.Frag} {args : α → List PyData} {pre : α → Prop} {C : α → β → Prop} {res : β → PyData} {n : Nat} (h : ∀ a, (args a).length = n) {vs : List V} {H : Hp} {Q : VK} {E : XK} (q : relSp K args pre C res vs H Q E) : vs.length = n := by
  obtain ⟨B, a, _, h1, _⟩ := q
  rw [imAll_len h1]; exact h a
def handSp {α β : Type} (K : PySem.W.Frag) (args : α → List PyData) (pre : α → Prop) (C : α → β → Prop) (res : β → PyData) : Sp := fun vs H Q _ =>
  ∃ (B : Bn) (h l : Addr) (a : α) (us : List V), Has B h l ∧ BOk B H ∧ HandOk h l H ∧ vs = .ref h :: us ∧ imAll K B (args a) us H ∧ pre a ∧ ∀ b v H', C a b → Rh h l H H' → im K B (res b) v H' → Q v H'
theorem handSp.len {α β : Type} {K : PySem.W.Frag} {args : α → List PyData} {pre : α → Prop} {C : α → β → Prop} {res : β → PyData} {n : Nat} (h : ∀ a, (args a).length = n) {vs : List V} {H : Hp} {Q : VK} {E : XK} (q : handSp K args pre C res vs H Q E) : vs.length = n + 1 := by
  obtain ⟨B, _, _, a, us, _, _, _, rfl, h1, _⟩ := q
  rw [List.length_cons, imAll_len h1, h a]
section
variable {R : Hp → Hp → Prop} {B : Bn} [rk : Rok B R] {K : PySem.W.Frag} {δ : List (Option PV)} {H H' : Hp}
end
section
variable {B : Bn} {h l : Addr} [hs : Has B h l] {K : PySem.W.Frag} {δ : List (Option PV)} {H : Hp} {t0 : TE} {E : XK}
end
end EL

set_option Elab.async false
set_option linter.all false
set_option maxRecDepth 100000
set_option maxHeartbeats 4000000
set_option autoImplicit false
namespace EL
open PySem PySem.Spec PyProof.Rows L2
section
variable {X : Cx} (K : PySem.W.Frag)
theorem op_addK (h : X.K = K := by rfl) : OpR X (binaryOp .Add) (rAddU K) := h ▸ op_addU
theorem op_mulK (h : X.K = K := by rfl) : OpR X (binaryOp .Mult) (rMulU K) := h ▸ op_mulU
theorem op_eqK (hu : X.A.units + 64 < cLine) (h : X.K = K := by rfl) : OpR X (compareOp .Eq) (rEqU K) := h ▸ op_eqU hu
theorem op_neK (hu : X.A.units + 64 < cLine) (h : X.K = K := by rfl) : OpR X (compareOp .NotEq) (rNeU K) := h ▸ op_neU hu
theorem sl_seqK (h : X.K = K := by rfl) : SlR X (rSlU K) := h ▸ sl_seqU
theorem ix_seqK (h : X.K = K := by rfl) : IxR X (rIx K) := h ▸ ix_seq
theorem op_inK (h : X.K = K := by rfl) : OpR X (compareOp .In) (rIn K false) := h ▸ op_in_seq
theorem op_notInK (h : X.K = K := by rfl) : OpR X (compareOp .NotIn) (rIn K true) := h ▸ op_notIn_seq
theorem call_lenK (h : X.K = K := by rfl) : CallR X (.builtin "len") (rLenQ K) := h ▸ call_len_seq
theorem call_tupleK (h : X.K = K := by rfl) : CallR X (.type "tuple") (rTupQ K) := h ▸ call_tuple_of
theorem call_listK (h : X.K = K := by rfl) : CallR X (.type "list") (rListQ K) := h ▸ call_list_of
theorem call_isiK (h : X.K = K := by rfl) : CallR X (.builtin "isinstance") (rIsi K) := h ▸ call_isi
theorem call_reprK (gd : X.A.guards = some []) (hu : X.A.units + 66 < cLine) (h : X.K = K := by rfl) : CallR X (.builtin "repr") (rReprD K) := h ▸ call_reprD gd hu
theorem cr_anyK (hc : X.calm = true) (h : X.K = K := by rfl) : CallR X (.builtin "any") (rAny K) := h ▸ cr_any hc
theorem cr_allK (hc : X.calm = true) (h : X.K = K := by rfl) : CallR X (.builtin "all") (rAll K) := h ▸ cr_all hc
theorem pi_seqK {tg l : Expr} {t : TE} (e : PE X l t) (h : X.K = K := by rfl) : PI X tg l (iSeqU K t) := h ▸ pi_seqU e
theorem pi_listK {tg l : Expr} {t : TE} (e : PE X l t) (h : X.K = K := by rfl) : PI X tg l (iList K t) := h ▸ pi_list e
end
section
variable {R : Hp → Hp → Prop} {B : Bn} [rk : Rok B R] {K : PySem.W.Frag} {δ : List (Option PV)} {H : Hp} {ta tb te : TE} {tt tu : TT} {D : Ends} {σ : L2.St} {t u : TS}
theorem EvTx.conv {C C' : Bool → Prop} (h : EvTx R B tt δ H C) (c : ∀ b, C b → C' b) : EvTx R B tt δ H C' := fun σ H1 r S Q k => h σ H1 r S Q fun b H2 z r2 => k b H2 (c b z) r2
theorem EvTx.at_ {C : Bool → Prop} {H' : Hp} (h : EvTx R B tt δ H C) (r : R H H') : EvTx R B tt δ H' C := fun σ H2 r2 => h σ H2 (rk.tr r r2)
end
end EL

set_option Elab.async false
set_option linter.all false
set_option maxRecDepth 100000
set_option maxHeartbeats 4000000
set_option autoImplicit false
namespace EL
open PySem PySem.Spec PyProof.Rows L2
section
variable {R : Hp → Hp → Prop} {B : Bn} [rk : Rok B R] {K : PySem.W.Frag} {δ : List (Option PV)} {H H' : Hp} {to ti te : TE} {p q w : PV} {tt : TT} {D : Ends} {σ : L2.St} {t u e : TS} {i j l : Nat}
end
end EL

set_option Elab.async false
set_option linter.all false
set_option maxRecDepth 100000
set_option maxHeartbeats 4000000
set_option autoImplicit false
namespace EL
open PySem PySem.Spec PyProof.Rows L2
section
variable {R : Hp → Hp → Prop} {B : Bn} [rk : Rok B R] {K : PySem.W.Frag} {δ : List (Option PV)} {H : Hp} {te tb : TE}
end
end EL

set_option Elab.async false
set_option linter.all false
set_option maxRecDepth 100000
set_option maxHeartbeats 4000000
set_option autoImplicit false
namespace EL
open PySem PySem.Spec PyProof.Rows L2
section
variable {R : Hp → Hp → Prop} {B : Bn} [rk : Rok B R] {K : PySem.W.Frag} {δ : List (Option PV)} {H : Hp} {ta te tb : TE}
end
end EL

set_option Elab.async false
set_option linter.all false
set_option maxRecDepth 100000
set_option maxHeartbeats 4000000
set_option autoImplicit false
namespace EL
open PySem PySem.Spec PyProof.Rows L2
def rLtD (K : PySem.W.Frag) : R2 := fun x y H Q => ∃ d e, Dp K H x d ∧ Dp K H y e ∧ PySem.W.alike d e = true ∧ d ≠ .none ∧ d.depth ≤ 64 ∧ Q (.bl (PySem.W.dataLt d e)) H
theorem op_ltD {X : Cx} (hu : X.A.units + 64 < cLine) : OpR X (compareOp .Lt) (rLtD X.K) := by
  intro pins s σ H x y v u Q I rx ry h
  obtain ⟨d, e, hd, he, ha, hn, hl, q⟩ := h
  obtain ⟨as, r1⟩ := Dp.reads I d x v hd rx
  obtain ⟨bs, r2⟩ := Dp.reads I e y u he ry
  exact PySem.W.rcLt_alike d e X.A s v u as bs r1 r2 ha hn (by omega) _ _ _ _ ⟨.bl _, H, I, rfl, q⟩
def rLtU (K : PySem.W.Frag) : R2 := rOr (rI0 fun i j => .bl (decide (i < j))) (rLtD K)
theorem op_ltK {X : Cx} (K : PySem.W.Frag) (hu : X.A.units + 64 < cLine) (h : X.K = K := by rfl) : OpR X (compareOp .Lt) (rLtU K) := h ▸ op_or op_lt (op_ltD hu)
section
variable {R : Hp → Hp → Prop} {B : Bn} [rk : Rok B R] {K : PySem.W.Frag} {δ : List (Option PV)} {H : Hp} {ta te tb : TE} {D : Ends} {σ : L2.St} {u tbd : TS}
theorem src_zip {ds es : List PyData} (ha : Ev R B ta δ H (im K B (.list ds))) (hb : Ev R B tb δ H (im K B (.list es))) (hl : ds.length = es.length) :
    Src R B (iZip K (tCons ta (tCons tb tNil))) δ H ds.length (fun i => im K B (.tuple [ds.getD i .none, es.getD i .none])) := fun σ H1 r S Q k =>
  ha σ H1 r S _ fun v H2 r2 hv => hb σ H2 (rk.tr r r2) (S.mono (rk.rb r2)) _ fun w H3 r3 ⟨b, ws, e', nb', s', hw⟩ => by
    obtain ⟨a, vs, e, nb, s, hv⟩ := im_st (rk.rb r3) _ _ hv
    refine ⟨a, b, vs, ws, by rw [e, e'], s, s', k _ (fun Hc => (SqL K Hc a vs ∧ SqL K Hc b ws) ∧ imAll K B ds vs Hc ∧ imAll K B es ws Hc) H3 (rk.tr r2 r3) ?_ fun H4 rb => ⟨⟨rb.sqL nb s, rb.sqL nb' s'⟩, imAll_st rb _ _ hv, imAll_st rb _ _ hw⟩⟩
    refine (walk_zip (by rw [imAll_len hv, imAll_len hw, ← hl, Nat.min_self])).mono (fun _ z => z.1) fun i Ha x Hb _ g ⟨T, y, z, ex, hT, eH, e1, e2⟩ => ?_
    subst eH
    have r4 := Ex.new (o := .tup [y, z]) hT
    exact ⟨r4, T, [y, z], ex, sqT_of upd_same, y, [z], rfl, im_st (RB.of_ex r4) _ _ (getD_im g.2.1 e1), z, [], rfl, im_st (RB.of_ex r4) _ _ (getD_im g.2.2 e2), rfl⟩
theorem Ev.own {p : Addr} {vs : List V} {ds : List PyData} (h : Ev R B te δ H (isP (.ref p))) (nb : ¬ B p) (e : H p = some (.lst vs)) (hv : imAll K B ds vs H) : Ev R B te δ H (im K B (.list ds)) :=
  h.conv fun v H1 r q => ⟨p, vs, q, nb, sqL_of ((rk.rb r).keep _ _ nb e), imAll_st (rk.rb r) _ _ hv⟩
end
def PS : List (Option PV) → Prop
  | [] => True
  | none :: l => PS l
  | some q :: l => (∀ v H H', TK H H' → q v H → q v H') ∧ PS l
theorem PS.get : ∀ {δ : List (Option PV)} {i : Nat} {q : PV}, PS δ → δ[i]? = some (some q) → ∀ v H H', TK H H' → q v H → q v H'
  | [], _, _, _, e => by simp at e
  | none :: l, 0, _, _, e => by simp at e
  | none :: l, i + 1, _, h, e => PS.get (δ := l) (i := i) h (by simpa using e)
  | some q :: l, 0, _, h, e => by simp at e; subst e; exact h.1
  | some q :: l, i + 1, _, h, e => PS.get (δ := l) (i := i) h.2 (by simpa using e)
theorem SD.tk {B : Bn} {H H' : Hp} {σ : L2.St} {δ : List (Option PV)} (s : SD B H σ δ) (o : BOk B H') (t : TK H H') (p : PS δ) : SD B H' σ δ := ⟨o, s.len, fun i q e => by
  obtain ⟨a, v, e1, h⟩ := s.at_ i q e
  exact ⟨a, v, e1, p.get e v H H' t h⟩⟩
section
variable {B : Bn} {K : PySem.W.Frag} {δ : List (Option PV)} {H : Hp} {te : TE} {D : Ends} {σ : L2.St} {u : TS}
end
theorem canLayAll_of : ∀ {ds : List PyData}, (∀ d ∈ ds, PyData.canLay0 d = true) → PyData.canLayAll0 ds = true
  | [], _ => by simp [PyData.canLayAll0]
  | d :: ds, h => by simp only [PyData.canLayAll0, h d (List.mem_cons_self ..), canLayAll_of fun e he => h e (List.mem_cons_of_mem _ he), Bool.and_self]
theorem depthAll_of {n : Nat} : ∀ {ds : List PyData}, (∀ d ∈ ds, PyData.depth d ≤ n) → PyData.depthAll ds ≤ n
  | [], _ => by simp [PyData.depthAll]
  | d :: ds, h => by
    have h1 := h d (List.mem_cons_self ..)
    have h2 := depthAll_of fun e he => h e (List.mem_cons_of_mem _ he)
    simp only [PyData.depthAll]
    omega
theorem shaped_list {ds : List PyData} {n : Nat} (h1 : ∀ d ∈ ds, PyData.canLay0 d = true) (h2 : ∀ d ∈ ds, PyData.depth d ≤ n) (hn : n ≤ 60) : SeqAt.shaped (.list ds) = true := by
  unfold SeqAt.shaped
  have a := canLayAll_of h1
  have b := depthAll_of h2
  simp only [PyData.canLay0, a, PyData.depth, Bool.true_and]
  exact decide_eq_true (by omega)
end EL

set_option Elab.async false
set_option linter.all false
set_option maxRecDepth 100000
set_option maxHeartbeats 4000000
set_option autoImplicit false
namespace EL
open PySem PySem.Spec PyProof.Rows L2
def ownE (B : Bn) (a : Addr) : PV := fun v Hc => v = .ref a ∧ ¬ B a ∧ Hc a = some (.lst [])
instance {B : Bn} {a : Addr} : Stb B (ownE B a) := ⟨fun r ⟨e, n, h⟩ => ⟨e, n, r.keep _ _ n h⟩⟩
abbrev ownX (B : Bn) : PV := exP (fun _ : Addr => True) (ownE B)
section
variable {R : Hp → Hp → Prop} {B : Bn} [rk : Rok B R] [rm : Rmk R] {K : PySem.W.Frag} {δ : List (Option PV)} {H : Hp} {ta te tb : TE} {D : Ends} {σ : L2.St} {u tbd : TS}
theorem ev_own (K : PySem.W.Frag) : Ev R B (tLst tNil) δ H (ownX B) := (ev_lstN (K := K) (ds := []) ea_nil (Nat.zero_le _)).conv fun v H1 _ ⟨a, vs, e, n, nb, h, q⟩ => ⟨a, trivial, e, nb, by rw [show vs = [] from q] at h; exact h⟩
end
theorem SD.own {B : Bn} {H : Hp} {σ : L2.St} {δ : List (Option PV)} (s : SD B H σ δ) (i : Nat) (e : δ[i]? = some (some (ownX B))) : ∃ a, ¬ B a ∧ H a = some (.lst []) ∧ SD B H σ (δ.set i (some (isP (.ref a)))) := by
  obtain ⟨v, e1, a, _, ev, nb, h⟩ := s.get e
  refine ⟨a, nb, h, s.ok, by rw [List.length_set]; exact s.len, fun j q e2 => ?_⟩
  by_cases z : i = j
  · subst z
    have hl : i < δ.length := by
      rcases Nat.lt_or_ge i δ.length with z | z
      · exact z
      · rw [List.getElem?_eq_none z] at e; cases e
    rw [List.getElem?_set_self hl] at e2
    cases e2
    exact ⟨inferInstance, v, e1, ev⟩
  · rw [List.getElem?_set_ne z] at e2
    exact s.at_ j q e2
theorem SD.up {B : Bn} {H : Hp} {σ : L2.St} {δ : List (Option PV)} {p q : PV} [hq : Stb B q] (s : SD B H σ δ) (i : Nat) (e : δ[i]? = some (some p)) (h : ∀ v, p v H → q v H) : SD B H σ (δ.set i (some q)) := by
  obtain ⟨v, e1, pv⟩ := s.get e
  refine ⟨s.ok, by rw [List.length_set]; exact s.len, fun j w e2 => ?_⟩
  by_cases z : i = j
  · subst z
    have hl : i < δ.length := by
      rcases Nat.lt_or_ge i δ.length with z | z
      · exact z
      · rw [List.getElem?_eq_none z] at e; cases e
    rw [List.getElem?_set_self hl] at e2
    cases e2
    exact ⟨hq, v, e1, h v pv⟩
  · rw [List.getElem?_set_ne z] at e2
    exact s.at_ j w e2
section
variable {R : Hp → Hp → Prop} {B : Bn} [rk : Rok B R] {K : PySem.W.Frag} {δ : List (Option PV)} {H : Hp} {ta te tb : TE} {D : Ends} {σ : L2.St} {u tbd : TS}
theorem Src.conv {wi : TI} {n m : Nat} {Y Z : Nat → PV} (h : Src R B wi δ H n Y) (e : n = m) (c : ∀ i v Hc, i < n → Y i v Hc → Z i v Hc) : Src R B wi δ H m Z := fun σ H1 r S Q k =>
  h σ H1 r S Q fun J G H2 r2 w g => k J G H2 r2 (e ▸ w.mono (fun _ z => z) fun i Ha x Hb hi _ y => ⟨y.1, c i x Hb hi y.2⟩) g
end
end EL

set_option Elab.async false
set_option linter.all false
set_option maxRecDepth 100000
set_option maxHeartbeats 4000000
set_option autoImplicit false
namespace EL
open PySem PySem.Spec PyProof.Rows L2
def rawL (K : PySem.W.Frag) (B : Bn) (ds : List PyData) : PV := fun v Hc => ∃ a vs, v = .ref a ∧ ¬ B a ∧ Hc a = some (.lst vs) ∧ imAll K B ds vs Hc
instance {K : PySem.W.Frag} {B : Bn} {ds : List PyData} : Stb B (rawL K B ds) := ⟨fun r ⟨a, vs, e, nb, h, q⟩ => ⟨a, vs, e, nb, r.keep _ _ nb h, imAll_st r _ _ q⟩⟩
theorem rawL.im {K : PySem.W.Frag} {B : Bn} {Hc : Hp} {ds : List PyData} {v : V} (h : rawL K B ds v Hc) : im K B (.list ds) v Hc := by
  obtain ⟨a, vs, e, nb, h, q⟩ := h
  exact ⟨a, vs, e, nb, sqL_of h, q⟩
theorem newL.raw {K : PySem.W.Frag} {B : Bn} {H Hc : Hp} {ds : List PyData} {v : V} (h : newL K B H ds v Hc) : rawL K B ds v Hc := by
  obtain ⟨a, vs, e, n, nb, h, q⟩ := h
  exact ⟨a, vs, e, nb, h, q⟩
section
variable {R : Hp → Hp → Prop} {B : Bn} [rk : Rok B R] {K : PySem.W.Frag} {δ : List (Option PV)} {H : Hp} {ta te tb : TE} {D : Ends} {σ : L2.St} {u tbd : TS}
def SrcD (R : Hp → Hp → Prop) (B : Bn) (wi : TI) (δ : List (Option PV)) (H : Hp) (n : Nat) (Y : Nat → PV) : Prop := ∀ σ H1 A, R H H1 → SD B H1 σ δ → H1 A ≠ none → ∀ Q : It → Hp → Prop,
  (∀ (J : It) (G : Hp → Prop) (H2 : Hp), R H1 H2 → Walk J n G (fun i Ha x Hb => Ex Ha Hb ∧ Y i x Hb) → (∀ H3, RB (fun a => B a ∨ a = A) H2 H3 → G H3) → Q J H2) → wi σ H1 Q
end
end EL

set_option Elab.async false
set_option linter.all false
set_option maxRecDepth 100000
set_option maxHeartbeats 4000000
set_option autoImplicit false
namespace EL
open PySem PySem.Spec PyProof.Rows L2
section
variable {R : Hp → Hp → Prop} {B : Bn} [rk : Rok B R] {K : PySem.W.Frag} {δ : List (Option PV)} {H : Hp} {ta te tb : TE} {D : Ends} {σ : L2.St} {u tbd : TS} {tt : TT}
def newSp {α : Type} (K : PySem.W.Frag) (args : α → List PyData) (pre : α → Prop) (res : α → List PyData) : Sp := fun vs H Q _ =>
  ∃ a : α, imAll K (fun _ => False) (args a) vs H ∧ pre a ∧ ∀ v H', Ex H H' → newL K (fun _ => False) H (res a) v H' → Q v H'
theorem newSp.len {α : Type} {K : PySem.W.Frag} {args : α → List PyData} {pre : α → Prop} {res : α → List PyData} {n : Nat} (h : ∀ a, (args a).length = n) {vs : List V} {H : Hp} {Q : VK} {E : XK} (q : newSp K args pre res vs H Q E) : vs.length = n := by
  obtain ⟨a, hv, _⟩ := q
  rw [imAll_len hv, h]
theorem SrcD.conv {wi : TI} {n m : Nat} {Y Z : Nat → PV} (h : SrcD R B wi δ H n Y) (e : n = m) (c : ∀ i v Hc, i < n → Y i v Hc → Z i v Hc) : SrcD R B wi δ H m Z := fun σ H1 A r S hA Q k =>
  h σ H1 A r S hA Q fun J G H2 r2 w g => k J G H2 r2 (e ▸ w.mono (fun _ z => z) fun i Ha x Hb hi _ y => ⟨y.1, c i x Hb hi y.2⟩) g
end
section
variable {B : Bn} {K : PySem.W.Frag} {δ : List (Option PV)} {H : Hp} {te : TE} {D : Ends} {σ : L2.St} {u : TS}
end
end EL

set_option Elab.async false
set_option linter.all false
set_option maxRecDepth 100000
set_option maxHeartbeats 4000000
set_option autoImplicit false
namespace EL
open PySem PySem.Spec PyProof.Rows L2
def rowsI (L : Nat) : Nat → List (List Int)
  | 0 => [[]]
  | n + 1 => (rowsI L n).flatMap fun row => (List.range L).map fun x => row ++ [((x : Nat) : Int)]
def blk (L m k : Nat) : List (List Int × List Int) := (rowsI L k).flatMap fun b => (rowsI L (m - k)).map fun r => (b, r)
end EL

set_option Elab.async false
set_option linter.all false
set_option maxRecDepth 100000
set_option maxHeartbeats 4000000
set_option autoImplicit false
namespace EL
open PySem PySem.Spec PyProof.Rows L2
theorem newL.back {K : PySem.W.Frag} {B : Bn} {H H0 Hc : Hp} {ds : List PyData} {v : V} (e : Ex H H0) (h : newL K B H0 ds v Hc) : newL K B H ds v Hc := by
  obtain ⟨a, vs, ev, n, nb, hx, hv⟩ := h
  exact ⟨a, vs, ev, e.free n, nb, hx, hv⟩
section
variable {R : Hp → Hp → Prop} {B : Bn} [rk : Rok B R] {K : PySem.W.Frag} {δ δ' : List (Option PV)} {H : Hp} {ta te tb : TE} {D : Ends} {σ : L2.St} {u tbd : TS} {tt : TT}
end
section
variable {B : Bn} {K : PySem.W.Frag} {δ δ' : List (Option PV)} {H : Hp} {te : TE} {D : Ends} {σ : L2.St} {u : TS}
end
end EL

set_option Elab.async false
set_option linter.all false
set_option maxRecDepth 100000
set_option maxHeartbeats 4000000
set_option autoImplicit false
namespace EL
open PySem PySem.Spec PyProof.Rows L2
section
variable {B : Bn} {K : PySem.W.Frag} {δ δ' : List (Option PV)} {H : Hp} {te : TE} {D : Ends} {σ : L2.St} {u : TS}
end
abbrev plus (B : Bn) (p : Addr) : Bn := fun a => B a ∨ a = p
theorem plus.ok {B : Bn} {p : Addr} {H : Hp} {xs : List V} (o : BOk B H) (h : H p = some (.lst xs)) : BOk (plus B p) H := fun a z => z.elim (o a) fun e => by rw [e, h]; exact fun q => nomatch q
end EL

set_option Elab.async false
set_option linter.all false
set_option maxRecDepth 100000
set_option maxHeartbeats 4000000
set_option autoImplicit false
namespace EL
open PySem PySem.Spec PyProof.Rows L2
end EL

set_option Elab.async false
set_option linter.all false
set_option maxRecDepth 100000
set_option maxHeartbeats 4000000
set_option autoImplicit false
namespace EL
open PySem PySem.Spec PyProof.Rows L2
theorem op_inDK {X : Cx} (K : PySem.W.Frag) (hu : X.A.units + 66 < cLine) (h : X.K = K := by rfl) : OpR X (compareOp .In) (rInD K) := h ▸ op_inD (by omega)
theorem op_notInDK {X : Cx} (K : PySem.W.Frag) (hu : X.A.units + 66 < cLine) (h : X.K = K := by rfl) : OpR X (compareOp .NotIn) (rNotInD K) := h ▸ op_notInD (by omega)
section
variable {R : Hp → Hp → Prop} {B : Bn} [rk : Rok B R] {K : PySem.W.Frag} {δ : List (Option PV)} {H : Hp} {ta te tb : TE}
end
end EL

set_option Elab.async false
set_option linter.all false
set_option maxRecDepth 100000
set_option maxHeartbeats 4000000
set_option autoImplicit false
namespace EL
open PySem PySem.Spec PyProof.Rows L2
section
variable {B : Bn} {h l : Addr} [hs : Has B h l] {K : PySem.W.Frag} {δ : List (Option PV)} {H : Hp} {te : TE} {D : Ends} {σ : L2.St}
end
end EL

set_option Elab.async false
set_option linter.all false
set_option maxRecDepth 100000
set_option maxHeartbeats 4000000
set_option autoImplicit false
namespace UX
open PySem PySem.Spec PyProof.Rows L2
open EL (Ex RB BOk Bn TK)
inductive U where
  | non | bl (b : Bool) | int (i : Int) | str (x : Str)
  | tup (us : List U) | lst (us : List U)
  | dct (ks : List Key) (us : List U)
  | dcT (ks : List (List Key)) (us : List U)
  | dcN (ks : List U) (us : List U)
  | obj (c : Str) (ns : List Str) (us : List U)
  | top (x : Str)
  | frl (us : List U)
  | loc (i : Nat)
mutual
def nkU : U → Option NestedKey
  | .non => some .none
  | .bl b => some (.num (if b = true then 1 else 0))
  | .int i => some (.num i)
  | .tup us => (nkAll us).map .tup
  | .str _ => none
  | .lst _ => none
  | .dct _ _ => none
  | .dcT _ _ => none
  | .dcN _ _ => none
  | .obj _ _ _ => none
  | .top _ => none
  | .frl _ => none
  | .loc _ => none
def nkAll : List U → Option (List NestedKey)
  | [] => some []
  | u :: us => match nkU u, nkAll us with
    | some d, some ds => some (d :: ds)
    | _, _ => none
end
def nk8 (u : U) : Option NestedKey := match nkU u with
  | some k => if k.depth ≤ 8 then some k else none
  | none => none
def nk8s : List U → Option (List NestedKey)
  | [] => some []
  | u :: us => match nk8 u, nk8s us with
    | some d, some ds => some (d :: ds)
    | _, _ => none
abbrev NP : Type := NestedKey × Addr × V
def nkA (kvs : List NP) : List V := kvs.map fun x => V.ref x.2.1
def nkV (kvs : List NP) : List V := kvs.map fun x => x.2.2
def NKV (kvs : List NP) (xs : List (NestedKey × Addr × Value)) : Prop := Paired (fun (p : NP) (q : NestedKey × Addr × Value) => p.1 = q.1 ∧ p.2.1 = q.2.1 ∧ RelV p.2.2 q.2.2) kvs xs
def DNh (P : Program) (w : World) (a : Addr) (kvs : List NP) (h : Heap) : Prop := kvs.length ≤ sizeLine ∧ (a == sysModules) = false ∧ ∃ xs : List (NestedKey × Addr × Value), NKV kvs xs ∧
  ∃ o es ep, h.get? a = some o ∧ o.ExactDict ∧ o.data = .dict es ep ∧ es.toList = xs.map (entryOfKey (nestedKind P w)) ∧ (xs.map (·.1)).Nodup
def DNo (a : Addr) (kvs : List NP) : HO := .ext fun h => ∃ (P : Program) (w : World), DNh P w a kvs h
structure Cxt where
  K : PySem.W.Frag
  at_ : Str → Addr
def FrL (K : PySem.W.Frag) (B : Bn) (H : Hp) (a : Addr) (vs : List V) : Prop := (¬ B a ∧ H a = some (.lst vs)) ∨ (∃ o, H a = some (.frz o (.lst vs))) ∨ SqL K (fun _ => none) a vs
theorem FrL.sq {K : PySem.W.Frag} {B : Bn} {H : Hp} {a : Addr} {vs : List V} (h : FrL K B H a vs) : SqL K H a vs := by
  rcases h with ⟨_, h⟩ | ⟨o, h⟩ | h
  · exact .inl (.inl h)
  · exact .inl (.inr ⟨o, h⟩)
  · rcases h with (h | ⟨o, h⟩) | h
    · cases h
    · cases h
    · exact .inr h
theorem FrL.of {K : PySem.W.Frag} {B : Bn} {H : Hp} {a : Addr} {vs : List V} (nb : ¬ B a) (h : SqL K H a vs) : FrL K B H a vs := by
  rcases h with (h | ⟨o, h⟩) | h
  · exact .inl ⟨nb, h⟩
  · exact .inr (.inl ⟨o, h⟩)
  · exact .inr (.inr (.inr h))
structure Kd (B : Bn) (H H' : Hp) : Prop where
  lst : ∀ a xs, ¬ B a → H a = some (.lst xs) → H' a = some (.lst xs)
  ins : ∀ a C dx fs, ¬ B a → H a = some (.ins C dx fs) → H' a = some (.ins C dx fs)
  dK : ∀ a kvs, ¬ B a → Rd H a (.dK kvs) → Rd H' a (.dK kvs)
  dT : ∀ a kvs, ¬ B a → Rd H a (.dT kvs) → Rd H' a (.dT kvs)
  dN : ∀ a b kvs, ¬ B a → Rd H a (DNo b kvs) → Rd H' a (DNo b kvs)
  tup : ∀ a xs, H a = some (.tup xs) → H' a = some (.tup xs)
  ftup : ∀ a o xs, H a = some (.frz o (.tup xs)) → H' a = some (.frz o (.tup xs))
  flst : ∀ a o xs, H a = some (.frz o (.lst xs)) → H' a = some (.frz o (.lst xs))
theorem kd_of {B : Bn} {H H' : Hp} (r : RB B H H') : Kd B H H' :=
  ⟨fun a xs n h => r.keep _ _ n h, fun a C dx fs n h => r.keep _ _ n h,
   fun a kvs n h => h.elim (fun h => .inl (r.keep _ _ n h)) fun ⟨o, h⟩ => .inr ⟨o, r.frz _ _ _ h⟩,
   fun a kvs n h => h.elim (fun h => .inl (r.keep _ _ n h)) fun ⟨o, h⟩ => .inr ⟨o, r.frz _ _ _ h⟩,
   fun a b kvs n h => h.elim (fun h => .inl (r.keep _ _ n h)) fun ⟨o, h⟩ => .inr ⟨o, r.frz _ _ _ h⟩, r.tup, fun a o xs h => r.frz _ _ _ h, fun a o xs h => r.frz _ _ _ h⟩
theorem Kd.sqT {B : Bn} {K : PySem.W.Frag} {H H' : Hp} {a : Addr} {xs : List V} (r : Kd B H H') (h : SqT K H a xs) : SqT K H' a xs := by
  rcases h with (h | ⟨o, h⟩) | h
  · exact .inl (.inl (r.tup _ _ h))
  · exact .inl (.inr ⟨o, r.ftup _ _ _ h⟩)
  · exact .inr h
theorem FrL.st {K : PySem.W.Frag} {B : Bn} {H H' : Hp} {a : Addr} {vs : List V} (r : Kd B H H') (h : FrL K B H a vs) : FrL K B H' a vs := by
  rcases h with ⟨n, h⟩ | ⟨o, h⟩ | h
  · exact .inl ⟨n, r.lst _ _ n h⟩
  · exact .inr (.inl ⟨o, r.flst _ _ _ h⟩)
  · exact .inr (.inr h)
theorem FrL.sub {K : PySem.W.Frag} {B B' : Bn} {H : Hp} {a : Addr} {vs : List V} (s : ∀ a, H a ≠ none → B' a → B a) (h : FrL K B H a vs) : FrL K B' H a vs := by
  rcases h with ⟨n, h⟩ | ⟨o, h⟩ | h
  · exact .inl ⟨fun b => n (s a (by rw [h]; exact fun z => nomatch z) b), h⟩
  · exact .inr (.inl ⟨o, h⟩)
  · exact .inr (.inr h)
theorem rd_ne {H : Hp} {a : Addr} {u : HO} (h : Rd H a u) : H a ≠ none := by
  rcases h with h | ⟨o, h⟩ <;> rw [h] <;> exact fun z => nomatch z
section
variable (G : Cxt) (rs : List Addr) (B : Bn)
mutual
def im : U → V → Hp → Prop
  | .non, v, _ => v = .non
  | .bl b, v, _ => v = .bl b
  | .int i, v, _ => v = .int i
  | .str x, v, _ => v = .str x
  | .tup us, v, H => ∃ a vs, v = .ref a ∧ H a = some (.tup vs) ∧ imAll us vs H
  | .lst us, v, H => ∃ a vs, v = .ref a ∧ ¬ B a ∧ H a = some (.lst vs) ∧ imAll us vs H
  | .dct ks us, v, H => ∃ a vs, v = .ref a ∧ ¬ B a ∧ Rd H a (.dK (ks.zip vs)) ∧ ks.length = us.length ∧ imAll us vs H
  | .dcT ks us, v, H => ∃ a vs, v = .ref a ∧ ¬ B a ∧ Rd H a (.dT (ks.zip vs)) ∧ ks.length = us.length ∧ imAll us vs H
  | .dcN ks us, v, H => ∃ a kvs, v = .ref a ∧ ¬ B a ∧ Rd H a (DNo a kvs) ∧ nk8s ks = some (kvs.map (·.1)) ∧ imAll ks (nkA kvs) H ∧ imAll us (nkV kvs) H
  | .obj c ns us, v, H => ∃ a dx vs, v = .ref a ∧ ¬ B a ∧ H a = some (.ins (G.at_ c) dx (ns.zip vs)) ∧ ns.length = us.length ∧ imAll us vs H
  | .top x, v, _ => v = .ref (G.at_ x)
  | .frl us, v, H => ∃ a vs, v = .ref a ∧ FrL G.K B H a vs ∧ imAll us vs H
  | .loc i, v, _ => ∃ a, rs[i]? = some a ∧ v = .ref a
def imAll : List U → List V → Hp → Prop
  | [], vs, _ => vs = []
  | u :: us, vs, H => ∃ v r, vs = v :: r ∧ im u v H ∧ imAll us r H
end
end
section
variable {G : Cxt} {rs rs' : List Addr} {B B' : Bn} {H H' : Hp}
mutual
theorem im_kd (r : Kd B H H') : ∀ (u : U) (v : V), im G rs B u v H → im G rs B u v H'
  | .non, _, h => h
  | .bl _, _, h => h
  | .int _, _, h => h
  | .str _, _, h => h
  | .tup us, _, ⟨a, vs, e, s, q⟩ => ⟨a, vs, e, r.tup _ _ s, imAll_kd r us vs q⟩
  | .lst us, _, ⟨a, vs, e, n, s, q⟩ => ⟨a, vs, e, n, r.lst _ _ n s, imAll_kd r us vs q⟩
  | .dct ks us, _, ⟨a, vs, e, n, s, l, q⟩ => ⟨a, vs, e, n, r.dK _ _ n s, l, imAll_kd r us vs q⟩
  | .dcT ks us, _, ⟨a, vs, e, n, s, l, q⟩ => ⟨a, vs, e, n, r.dT _ _ n s, l, imAll_kd r us vs q⟩
  | .dcN ks us, _, ⟨a, kvs, e, n, s, l, q1, q2⟩ => ⟨a, kvs, e, n, r.dN _ _ _ n s, l, imAll_kd r ks _ q1, imAll_kd r us _ q2⟩
  | .obj c ns us, _, ⟨a, dx, vs, e, n, s, l, q⟩ => ⟨a, dx, vs, e, n, r.ins _ _ _ _ n s, l, imAll_kd r us vs q⟩
  | .top _, _, h => h
  | .frl us, _, ⟨a, vs, e, s, q⟩ => ⟨a, vs, e, s.st r, imAll_kd r us vs q⟩
  | .loc _, _, h => h
theorem imAll_kd (r : Kd B H H') : ∀ (us : List U) (vs : List V), imAll G rs B us vs H → imAll G rs B us vs H'
  | [], _, h => h
  | u :: us, _, ⟨v, w, e, h1, h2⟩ => ⟨v, w, e, im_kd r u v h1, imAll_kd r us w h2⟩
end
theorem im_st (r : RB B H H') (u : U) (v : V) (h : im G rs B u v H) : im G rs B u v H' := im_kd (kd_of r) u v h
theorem imAll_st (r : RB B H H') (us : List U) (vs : List V) (h : imAll G rs B us vs H) : imAll G rs B us vs H' := imAll_kd (kd_of r) us vs h
mutual
theorem im_sub (s : ∀ a, H a ≠ none → B' a → B a) : ∀ (u : U) (v : V), im G rs B u v H → im G rs B' u v H
  | .non, _, h => h
  | .bl _, _, h => h
  | .int _, _, h => h
  | .str _, _, h => h
  | .tup us, _, ⟨a, vs, e, t, q⟩ => ⟨a, vs, e, t, imAll_sub s us vs q⟩
  | .lst us, _, ⟨a, vs, e, n, t, q⟩ => ⟨a, vs, e, fun b => n (s a (by rw [t]; exact fun z => nomatch z) b), t, imAll_sub s us vs q⟩
  | .dct ks us, _, ⟨a, vs, e, n, t, l, q⟩ => ⟨a, vs, e, fun b => n (s a (rd_ne t) b), t, l, imAll_sub s us vs q⟩
  | .dcT ks us, _, ⟨a, vs, e, n, t, l, q⟩ => ⟨a, vs, e, fun b => n (s a (rd_ne t) b), t, l, imAll_sub s us vs q⟩
  | .dcN ks us, _, ⟨a, kvs, e, n, t, l, q1, q2⟩ => ⟨a, kvs, e, fun b => n (s a (rd_ne t) b), t, l, imAll_sub s ks _ q1, imAll_sub s us _ q2⟩
  | .obj c ns us, _, ⟨a, dx, vs, e, n, t, l, q⟩ => ⟨a, dx, vs, e, fun b => n (s a (by rw [t]; exact fun z => nomatch z) b), t, l, imAll_sub s us vs q⟩
  | .top _, _, h => h
  | .frl us, _, ⟨a, vs, e, t, q⟩ => ⟨a, vs, e, t.sub s, imAll_sub s us vs q⟩
  | .loc _, _, h => h
theorem imAll_sub (s : ∀ a, H a ≠ none → B' a → B a) : ∀ (us : List U) (vs : List V), imAll G rs B us vs H → imAll G rs B' us vs H
  | [], _, h => h
  | u :: us, _, ⟨v, w, e, h1, h2⟩ => ⟨v, w, e, im_sub s u v h1, imAll_sub s us w h2⟩
end
mutual
theorem im_rs (s : ∀ (i : Nat) (a : Addr), rs[i]? = some a → rs'[i]? = some a) : ∀ (u : U) (v : V), im G rs B u v H → im G rs' B u v H
  | .non, _, h => h
  | .bl _, _, h => h
  | .int _, _, h => h
  | .str _, _, h => h
  | .tup us, _, ⟨a, vs, e, t, q⟩ => ⟨a, vs, e, t, imAll_rs s us vs q⟩
  | .lst us, _, ⟨a, vs, e, n, t, q⟩ => ⟨a, vs, e, n, t, imAll_rs s us vs q⟩
  | .dct ks us, _, ⟨a, vs, e, n, t, l, q⟩ => ⟨a, vs, e, n, t, l, imAll_rs s us vs q⟩
  | .dcT ks us, _, ⟨a, vs, e, n, t, l, q⟩ => ⟨a, vs, e, n, t, l, imAll_rs s us vs q⟩
  | .dcN ks us, _, ⟨a, kvs, e, n, t, l, q1, q2⟩ => ⟨a, kvs, e, n, t, l, imAll_rs s ks _ q1, imAll_rs s us _ q2⟩
  | .obj c ns us, _, ⟨a, dx, vs, e, n, t, l, q⟩ => ⟨a, dx, vs, e, n, t, l, imAll_rs s us vs q⟩
  | .top _, _, h => h
  | .frl us, _, ⟨a, vs, e, t, q⟩ => ⟨a, vs, e, t, imAll_rs s us vs q⟩
  | .loc _, _, ⟨a, e, h⟩ => ⟨a, s _ _ e, h⟩
theorem imAll_rs (s : ∀ (i : Nat) (a : Addr), rs[i]? = some a → rs'[i]? = some a) : ∀ (us : List U) (vs : List V), imAll G rs B us vs H → imAll G rs' B us vs H
  | [], _, h => h
  | u :: us, _, ⟨v, w, e, h1, h2⟩ => ⟨v, w, e, im_rs s u v h1, imAll_rs s us w h2⟩
end
theorem imAll_len : ∀ {us : List U} {vs : List V}, imAll G rs B us vs H → vs.length = us.length
  | [], _, h => by rw [show _ = _ from h]; rfl
  | d :: ds, _, ⟨v, w, e, _, h2⟩ => by rw [e, List.length_cons, List.length_cons, imAll_len h2]
theorem imAll_get : ∀ {us : List U} {vs : List V} {i : Nat} {u : U}, imAll G rs B us vs H → us[i]? = some u → ∃ v, vs[i]? = some v ∧ im G rs B u v H
  | [], _, _, _, _, e => by simp at e
  | d :: ds, _, 0, d', ⟨v, w, e, h1, h2⟩, e' => by
    simp at e'; subst e' e; exact ⟨v, rfl, h1⟩
  | d :: ds, _, i + 1, d', ⟨v, w, e, h1, h2⟩, e' => by
    subst e
    obtain ⟨x, e1, e2⟩ := imAll_get (i := i) h2 (by simpa using e')
    exact ⟨x, by simpa using e1, e2⟩
theorem imAll_getV : ∀ {us : List U} {vs : List V} {i : Nat} {v : V}, imAll G rs B us vs H → vs[i]? = some v → ∃ u, us[i]? = some u ∧ im G rs B u v H
  | [], _, _, _, h, e => by rw [show _ = _ from h] at e; simp at e
  | d :: ds, _, 0, v', ⟨v, w, e, h1, h2⟩, e' => by
    subst e; simp at e'; subst e'; exact ⟨d, rfl, h1⟩
  | d :: ds, _, i + 1, v', ⟨v, w, e, h1, h2⟩, e' => by
    subst e
    obtain ⟨x, e1, e2⟩ := imAll_getV (i := i) h2 (by simpa using e')
    exact ⟨x, by simpa using e1, e2⟩
theorem imAll_append : ∀ {us us' : List U} {vs ws : List V}, imAll G rs B us vs H → imAll G rs B us' ws H → imAll G rs B (us ++ us') (vs ++ ws) H
  | [], _, _, _, h, h' => by rw [show _ = _ from h]; exact h'
  | d :: ds, es, _, ws, ⟨v, w, e, h1, h2⟩, h' => by
    subst e; exact ⟨v, w ++ ws, rfl, h1, imAll_append h2 h'⟩
theorem imAll_snoc {us : List U} {vs : List V} {u : U} {v : V} (h : imAll G rs B us vs H) (h' : im G rs B u v H) : imAll G rs B (us ++ [u]) (vs ++ [v]) H := imAll_append h ⟨v, [], rfl, h', rfl⟩
theorem imAll_take : ∀ {us : List U} {vs : List V} (n : Nat), imAll G rs B us vs H → imAll G rs B (us.take n) (vs.take n) H
  | _, _, 0, _ => rfl
  | [], _, n + 1, h => by rw [show _ = _ from h]; rfl
  | d :: ds, _, n + 1, ⟨v, w, e, h1, h2⟩ => by subst e; exact ⟨v, _, rfl, h1, imAll_take n h2⟩
theorem imAll_drop : ∀ {us : List U} {vs : List V} (n : Nat), imAll G rs B us vs H → imAll G rs B (us.drop n) (vs.drop n) H
  | _, _, 0, h => h
  | [], _, n + 1, h => by rw [show _ = _ from h]; rfl
  | d :: ds, _, n + 1, ⟨v, w, e, h1, h2⟩ => by subst e; exact imAll_drop n h2
theorem imAll_rep {us : List U} {vs : List V} (h : imAll G rs B us vs H) : ∀ n : Nat, imAll G rs B (List.replicate n us).flatten (List.replicate n vs).flatten H
  | 0 => rfl
  | n + 1 => by
    rw [List.replicate_succ, List.replicate_succ, List.flatten_cons, List.flatten_cons]
    exact imAll_append h (imAll_rep h n)
theorem imAll_set : ∀ {us : List U} {vs : List V} {i : Nat} {u : U} {v : V}, imAll G rs B us vs H → im G rs B u v H → imAll G rs B (us.set i u) (vs.set i v) H
  | [], _, _, _, _, h, _ => by rw [show _ = _ from h]; rfl
  | d :: ds, _, 0, u, v, ⟨v', w, e, h1, h2⟩, h => by subst e; exact ⟨v, w, rfl, h, h2⟩
  | d :: ds, _, i + 1, u, v, ⟨v', w, e, h1, h2⟩, h => by subst e; exact ⟨v', _, rfl, h1, imAll_set h2 h⟩
end
mutual
def pd : U → Option PyData
  | .non => some .none
  | .bl b => some (.bool b)
  | .int i => some (.int i)
  | .str x => some (.str x)
  | .tup us => (pdAll us).map .tuple
  | .lst us => (pdAll us).map .list
  | .dct _ _ => none
  | .dcT _ _ => none
  | .dcN _ _ => none
  | .obj _ _ _ => none
  | .top _ => none
  | .frl us => (pdAll us).map .list
  | .loc _ => none
def pdAll : List U → Option (List PyData)
  | [] => some []
  | u :: us => match pd u, pdAll us with
    | some d, some ds => some (d :: ds)
    | _, _ => none
end
section
variable {G : Cxt} {rs : List Addr} {B B' : Bn} {H H' : Hp}
mutual
theorem im_dp : ∀ (u : U) (v : V) (d : PyData), im G rs B u v H → pd u = some d → Dp G.K H v d
  | .non, _, _, h, e => by cases h; cases e; exact .non
  | .bl _, _, _, h, e => by cases h; cases e; exact .bl _
  | .int _, _, _, h, e => by cases h; cases e; exact .int _
  | .str _, _, _, h, e => by cases h; cases e; exact .str _
  | .tup us, _, d, ⟨a, vs, e, s, q⟩, e' => by
    subst e
    obtain ⟨ds, e1, rfl⟩ := Option.map_eq_some_iff.mp (show (pdAll us).map .tuple = some d from e')
    exact .tup (EL.sqT_of s) (imAll_dp us vs ds q e1)
  | .lst us, _, d, ⟨a, vs, e, _, s, q⟩, e' => by
    subst e
    obtain ⟨ds, e1, rfl⟩ := Option.map_eq_some_iff.mp (show (pdAll us).map .list = some d from e')
    exact .lst (.inl (.inl s)) (imAll_dp us vs ds q e1)
  | .dct _ _, _, _, _, e' => by cases e'
  | .dcT _ _, _, _, _, e' => by cases e'
  | .dcN _ _, _, _, _, e' => by cases e'
  | .obj _ _ _, _, _, _, e' => by cases e'
  | .top _, _, _, _, e' => by cases e'
  | .frl us, _, d, ⟨a, vs, e, s, q⟩, e' => by
    subst e
    obtain ⟨ds, e1, rfl⟩ := Option.map_eq_some_iff.mp (show (pdAll us).map .list = some d from e')
    exact .lst s.sq (imAll_dp us vs ds q e1)
  | .loc _, _, _, _, e' => by cases e'
theorem imAll_dp : ∀ (us : List U) (vs : List V) (ds : List PyData), imAll G rs B us vs H → pdAll us = some ds → DpAll G.K H vs ds
  | [], _, _, h, e => by rw [show _ = _ from h]; cases e; exact .nil
  | u :: us, _, ds, ⟨v, w, e, h1, h2⟩, e' => by
    subst e
    rw [pdAll] at e'
    cases e1 : pd u with
    | none => rw [e1] at e'; cases e'
    | some d =>
      cases e2 : pdAll us with
      | none => rw [e1, e2] at e'; cases e'
      | some ds => rw [e1, e2] at e'; cases e'; exact .cons (im_dp u v d h1 e1) (imAll_dp us w ds h2 e2)
end
end
inductive Sh where
  | leaf | lst (s : Sh) | dct (s : Sh) | tup (f : Nat → Sh) | obj (f : Str → Sh)
def ownZ (P : Nat → U → V → Hp → List Addr → Prop) : Nat → List U → List V → Hp → List Addr → Prop
  | _, [], vs, _, A => vs = [] ∧ A = []
  | n, u :: us, vs, H, A => ∃ v r A1 A2, vs = v :: r ∧ A = A1 ++ A2 ∧ P n u v H A1 ∧ ownZ P (n + 1) us r H A2
def ownD (G : Cxt) (rs : List Addr) (B : Bn) : Sh → U → V → Hp → List Addr → Prop
  | .leaf, u, v, H, A => A = [] ∧ im G rs B u v H
  | .lst s, .lst us, v, H, A => ∃ a vs A', v = .ref a ∧ A = a :: A' ∧ H a = some (.lst vs) ∧ ownZ (fun _ => ownD G rs B s) 0 us vs H A'
  | .dct s, .dct ks us, v, H, A => ∃ a vs A', v = .ref a ∧ A = a :: A' ∧ H a = some (.dK (ks.zip vs)) ∧ ks.length = us.length ∧ ownZ (fun _ => ownD G rs B s) 0 us vs H A'
  | .dct s, .dcT ks us, v, H, A => ∃ a vs A', v = .ref a ∧ A = a :: A' ∧ H a = some (.dT (ks.zip vs)) ∧ ks.length = us.length ∧ ownZ (fun _ => ownD G rs B s) 0 us vs H A'
  | .dct s, .dcN ks us, v, H, A => ∃ a kvs A', v = .ref a ∧ A = a :: A' ∧ H a = some (DNo a kvs) ∧ nk8s ks = some (kvs.map (·.1)) ∧ imAll G rs B ks (nkA kvs) H ∧ ownZ (fun _ => ownD G rs B s) 0 us (nkV kvs) H A'
  | .tup f, .tup us, v, H, A => ∃ a vs, v = .ref a ∧ H a = some (.tup vs) ∧ ownZ (fun n => ownD G rs B (f n)) 0 us vs H A
  | .obj f, .obj c ns us, v, H, A => ∃ a dx vs A', v = .ref a ∧ A = a :: A' ∧ H a = some (.ins (G.at_ c) dx (ns.zip vs)) ∧ ns.length = us.length ∧ ownZ (fun n => ownD G rs B (f (ns.getD n ""))) 0 us vs H A'
  | _, _, _, _, _ => False
section
variable {G : Cxt} {rs rs' : List Addr} {B B' : Bn} {H H' : Hp}
theorem ownZ_mono {P P' : Nat → U → V → Hp → List Addr → Prop} : ∀ {us : List U} {n : Nat} {vs : List V} {A : List Addr}, (∀ n u v A1, (∀ a ∈ A1, a ∈ A) → P n u v H A1 → P' n u v H' A1) → ownZ P n us vs H A → ownZ P' n us vs H' A
  | [], _, _, _, _, h => h
  | u :: us, n, _, _, f, ⟨v, r, A1, A2, e1, e2, h1, h2⟩ => ⟨v, r, A1, A2, e1, e2, f n u v A1 (fun a m => by rw [e2]; exact List.mem_append_left _ m) h1,
      ownZ_mono (fun n u v A3 s p => f n u v A3 (fun a m => by rw [e2]; exact List.mem_append_right _ (s a m)) p) h2⟩
theorem ownZ_len {P : Nat → U → V → Hp → List Addr → Prop} : ∀ {us : List U} {n : Nat} {vs : List V} {A : List Addr}, ownZ P n us vs H A → vs.length = us.length
  | [], _, _, _, h => by rw [h.1]; rfl
  | u :: us, n, _, _, ⟨v, r, A1, A2, e1, e2, h1, h2⟩ => by rw [e1, List.length_cons, List.length_cons, ownZ_len h2]
theorem imAll_mono (hk : ∀ u v, im G rs B u v H → im G rs' B' u v H') : ∀ (us : List U) (vs : List V), imAll G rs B us vs H → imAll G rs' B' us vs H'
  | [], _, h => h
  | u :: us, _, ⟨v, w, e, h1, h2⟩ => ⟨v, w, e, hk u v h1, imAll_mono hk us w h2⟩
theorem own_mono (hk : ∀ u v, im G rs B u v H → im G rs' B' u v H') (ht : ∀ a xs, H a = some (.tup xs) → H' a = some (.tup xs)) : ∀ (s : Sh) (u : U) (v : V) (A : List Addr), (∀ a ∈ A, H' a = H a) → ownD G rs B s u v H A → ownD G rs' B' s u v H' A
  | .leaf, u, v, A, _, h => ⟨h.1, hk u v h.2⟩
  | .lst s, .lst us, v, A, k, ⟨a, vs, A', e1, e2, h, q⟩ => ⟨a, vs, A', e1, e2, by rw [k a (by rw [e2]; exact List.mem_cons_self)]; exact h,
      ownZ_mono (fun n u v A1 m p => own_mono hk ht s u v A1 (fun a z => k a (by rw [e2]; exact List.mem_cons_of_mem _ (m a z))) p) q⟩
  | .dct s, .dct ks us, v, A, k, ⟨a, vs, A', e1, e2, h, l, q⟩ => ⟨a, vs, A', e1, e2, by rw [k a (by rw [e2]; exact List.mem_cons_self)]; exact h, l,
      ownZ_mono (fun n u v A1 m p => own_mono hk ht s u v A1 (fun a z => k a (by rw [e2]; exact List.mem_cons_of_mem _ (m a z))) p) q⟩
  | .dct s, .dcT ks us, v, A, k, ⟨a, vs, A', e1, e2, h, l, q⟩ => ⟨a, vs, A', e1, e2, by rw [k a (by rw [e2]; exact List.mem_cons_self)]; exact h, l,
      ownZ_mono (fun n u v A1 m p => own_mono hk ht s u v A1 (fun a z => k a (by rw [e2]; exact List.mem_cons_of_mem _ (m a z))) p) q⟩
  | .dct s, .dcN ks us, v, A, k, ⟨a, kvs, A', e1, e2, h, l, q1, q⟩ => ⟨a, kvs, A', e1, e2, by rw [k a (by rw [e2]; exact List.mem_cons_self)]; exact h, l, imAll_mono hk ks _ q1,
      ownZ_mono (fun n u v A1 m p => own_mono hk ht s u v A1 (fun a z => k a (by rw [e2]; exact List.mem_cons_of_mem _ (m a z))) p) q⟩
  | .tup f, .tup us, v, A, k, ⟨a, vs, e1, h, q⟩ => ⟨a, vs, e1, ht _ _ h,
      ownZ_mono (fun n u v A1 m p => own_mono hk ht (f n) u v A1 (fun a z => k a (m a z)) p) q⟩
  | .obj f, .obj c ns us, v, A, k, ⟨a, dx, vs, A', e1, e2, h, l, q⟩ => ⟨a, dx, vs, A', e1, e2, by rw [k a (by rw [e2]; exact List.mem_cons_self)]; exact h, l,
      ownZ_mono (fun n u v A1 m p => own_mono hk ht (f (ns.getD n "")) u v A1 (fun a z => k a (by rw [e2]; exact List.mem_cons_of_mem _ (m a z))) p) q⟩
theorem ownZ_leaf {us : List U} {n : Nat} {vs : List V} {A : List Addr} {f : Nat → Sh} (hf : ∀ n, f n = .leaf) : ownZ (fun n => ownD G rs B (f n)) n us vs H A ↔ A = [] ∧ imAll G rs B us vs H := by
  induction us generalizing n vs A with
  | nil => exact ⟨fun h => ⟨h.2, h.1⟩, fun h => ⟨h.2, h.1⟩⟩
  | cons u us ih =>
    constructor
    · rintro ⟨v, r, A1, A2, e1, e2, h1, h2⟩
      rw [hf n] at h1
      obtain ⟨z, h1⟩ := h1
      obtain ⟨z2, h2⟩ := ih.mp h2
      exact ⟨by rw [e2, z, z2]; rfl, v, r, e1, h1, h2⟩
    · rintro ⟨e, v, r, e1, h1, h2⟩
      exact ⟨v, r, [], [], e1, e, by show ownD G rs B (f n) u v H []; rw [hf n]; exact ⟨rfl, h1⟩, ih.mpr ⟨rfl, h2⟩⟩
theorem own_lst {us : List U} {v : V} {A : List Addr} : ownD G rs B (.lst .leaf) (.lst us) v H A ↔ ∃ a vs, v = .ref a ∧ A = [a] ∧ H a = some (.lst vs) ∧ imAll G rs B us vs H := by
  constructor
  · rintro ⟨a, vs, A', e1, e2, h, q⟩
    obtain ⟨z, q⟩ := (ownZ_leaf (f := fun _ => .leaf) fun _ => rfl).mp q
    exact ⟨a, vs, e1, by rw [e2, z], h, q⟩
  · rintro ⟨a, vs, e1, e2, h, q⟩
    exact ⟨a, vs, [], e1, e2, h, (ownZ_leaf (f := fun _ => .leaf) fun _ => rfl).mpr ⟨rfl, q⟩⟩
theorem own_dct {ks : List Key} {us : List U} {v : V} {A : List Addr} : ownD G rs B (.dct .leaf) (.dct ks us) v H A ↔ ∃ a vs, v = .ref a ∧ A = [a] ∧ H a = some (.dK (ks.zip vs)) ∧ ks.length = us.length ∧ imAll G rs B us vs H := by
  constructor
  · rintro ⟨a, vs, A', e1, e2, h, l, q⟩
    obtain ⟨z, q⟩ := (ownZ_leaf (f := fun _ => .leaf) fun _ => rfl).mp q
    exact ⟨a, vs, e1, by rw [e2, z], h, l, q⟩
  · rintro ⟨a, vs, e1, e2, h, l, q⟩
    exact ⟨a, vs, [], e1, e2, h, l, (ownZ_leaf (f := fun _ => .leaf) fun _ => rfl).mpr ⟨rfl, q⟩⟩
theorem own_dcT {ks : List (List Key)} {us : List U} {v : V} {A : List Addr} : ownD G rs B (.dct .leaf) (.dcT ks us) v H A ↔ ∃ a vs, v = .ref a ∧ A = [a] ∧ H a = some (.dT (ks.zip vs)) ∧ ks.length = us.length ∧ imAll G rs B us vs H := by
  constructor
  · rintro ⟨a, vs, A', e1, e2, h, l, q⟩
    obtain ⟨z, q⟩ := (ownZ_leaf (f := fun _ => .leaf) fun _ => rfl).mp q
    exact ⟨a, vs, e1, by rw [e2, z], h, l, q⟩
  · rintro ⟨a, vs, e1, e2, h, l, q⟩
    exact ⟨a, vs, [], e1, e2, h, l, (ownZ_leaf (f := fun _ => .leaf) fun _ => rfl).mpr ⟨rfl, q⟩⟩
theorem own_dcN {ks us : List U} {v : V} {A : List Addr} : ownD G rs B (.dct .leaf) (.dcN ks us) v H A ↔ ∃ a kvs, v = .ref a ∧ A = [a] ∧ H a = some (DNo a kvs) ∧ nk8s ks = some (kvs.map (·.1)) ∧ imAll G rs B ks (nkA kvs) H ∧ imAll G rs B us (nkV kvs) H := by
  constructor
  · rintro ⟨a, vs, A', e1, e2, h, l, q1, q⟩
    obtain ⟨z, q⟩ := (ownZ_leaf (f := fun _ => .leaf) fun _ => rfl).mp q
    exact ⟨a, vs, e1, by rw [e2, z], h, l, q1, q⟩
  · rintro ⟨a, vs, e1, e2, h, l, q1, q⟩
    exact ⟨a, vs, [], e1, e2, h, l, q1, (ownZ_leaf (f := fun _ => .leaf) fun _ => rfl).mpr ⟨rfl, q⟩⟩
end
section
variable (G : Cxt) (rs : List Addr) (B : Bn)
mutual
def ownF : U → V → Hp → List Addr → Prop
  | .lst us, v, H, A => ∃ a vs A', v = .ref a ∧ A = a :: A' ∧ H a = some (.lst vs) ∧ ownFs us vs H A'
  | .dct ks us, v, H, A => ∃ a vs A', v = .ref a ∧ A = a :: A' ∧ H a = some (.dK (ks.zip vs)) ∧ ks.length = us.length ∧ ownFs us vs H A'
  | .dcT ks us, v, H, A => ∃ a vs A', v = .ref a ∧ A = a :: A' ∧ H a = some (.dT (ks.zip vs)) ∧ ks.length = us.length ∧ ownFs us vs H A'
  | .non, v, H, A => A = [] ∧ im G rs B .non v H
  | .bl b, v, H, A => A = [] ∧ im G rs B (.bl b) v H
  | .int i, v, H, A => A = [] ∧ im G rs B (.int i) v H
  | .str x, v, H, A => A = [] ∧ im G rs B (.str x) v H
  | .tup us, v, H, A => A = [] ∧ im G rs B (.tup us) v H
  | .obj c ns us, v, H, A => A = [] ∧ im G rs B (.obj c ns us) v H
  | .dcN ks us, v, H, A => A = [] ∧ im G rs B (.dcN ks us) v H
  | .top x, v, H, A => A = [] ∧ im G rs B (.top x) v H
  | .frl us, v, H, A => A = [] ∧ im G rs B (.frl us) v H
  | .loc i, v, H, A => A = [] ∧ im G rs B (.loc i) v H
def ownFs : List U → List V → Hp → List Addr → Prop
  | [], vs, _, A => vs = [] ∧ A = []
  | u :: us, vs, H, A => ∃ v r A1 A2, vs = v :: r ∧ A = A1 ++ A2 ∧ ownF u v H A1 ∧ ownFs us r H A2
end
def ownC : U → V → Hp → List Addr → Prop
  | .obj c ns us, v, H, A => (∃ a dx vs A', v = .ref a ∧ A = a :: A' ∧ H a = some (.ins (G.at_ c) dx (ns.zip vs)) ∧ ns.length = us.length ∧ ownFs G rs B us vs H A')
  | u, v, H, A => ownF G rs B u v H A
end
section
variable {G : Cxt} {rs rs' : List Addr} {B B' : Bn} {H H' : Hp}
mutual
theorem ownF_mono (hk : ∀ u v, im G rs B u v H → im G rs' B' u v H') : ∀ (u : U) (v : V) (A : List Addr), (∀ a ∈ A, H' a = H a) → ownF G rs B u v H A → ownF G rs' B' u v H' A
  | .lst us, v, A, k, ⟨a, vs, A', e1, e2, h, q⟩ => ⟨a, vs, A', e1, e2, by rw [k a (by rw [e2]; exact List.mem_cons_self)]; exact h, ownFs_mono hk us vs A' (fun b m => k b (by rw [e2]; exact List.mem_cons_of_mem _ m)) q⟩
  | .dct ks us, v, A, k, ⟨a, vs, A', e1, e2, h, l, q⟩ => ⟨a, vs, A', e1, e2, by rw [k a (by rw [e2]; exact List.mem_cons_self)]; exact h, l, ownFs_mono hk us vs A' (fun b m => k b (by rw [e2]; exact List.mem_cons_of_mem _ m)) q⟩
  | .dcT ks us, v, A, k, ⟨a, vs, A', e1, e2, h, l, q⟩ => ⟨a, vs, A', e1, e2, by rw [k a (by rw [e2]; exact List.mem_cons_self)]; exact h, l, ownFs_mono hk us vs A' (fun b m => k b (by rw [e2]; exact List.mem_cons_of_mem _ m)) q⟩
  | .non, v, A, _, h => ⟨h.1, hk _ _ h.2⟩
  | .bl _, v, A, _, h => ⟨h.1, hk _ _ h.2⟩
  | .int _, v, A, _, h => ⟨h.1, hk _ _ h.2⟩
  | .str _, v, A, _, h => ⟨h.1, hk _ _ h.2⟩
  | .tup _, v, A, _, h => ⟨h.1, hk _ _ h.2⟩
  | .obj _ _ _, v, A, _, h => ⟨h.1, hk _ _ h.2⟩
  | .dcN _ _, v, A, _, h => ⟨h.1, hk _ _ h.2⟩
  | .top _, v, A, _, h => ⟨h.1, hk _ _ h.2⟩
  | .frl _, v, A, _, h => ⟨h.1, hk _ _ h.2⟩
  | .loc _, v, A, _, h => ⟨h.1, hk _ _ h.2⟩
theorem ownFs_mono (hk : ∀ u v, im G rs B u v H → im G rs' B' u v H') : ∀ (us : List U) (vs : List V) (A : List Addr), (∀ a ∈ A, H' a = H a) → ownFs G rs B us vs H A → ownFs G rs' B' us vs H' A
  | [], _, _, _, h => h
  | u :: us, _, A, k, ⟨v, r, A1, A2, e1, e2, h1, h2⟩ => ⟨v, r, A1, A2, e1, e2, ownF_mono hk u v A1 (fun a m => k a (by rw [e2]; exact List.mem_append_left _ m)) h1, ownFs_mono hk us r A2 (fun a m => k a (by rw [e2]; exact List.mem_append_right _ m)) h2⟩
end
theorem ownC_mono (hk : ∀ u v, im G rs B u v H → im G rs' B' u v H') : ∀ (u : U) (v : V) (A : List Addr), (∀ a ∈ A, H' a = H a) → ownC G rs B u v H A → ownC G rs' B' u v H' A
  | .obj c ns us, v, A, k, ⟨a, dx, vs, A', e1, e2, h, l, q⟩ => ⟨a, dx, vs, A', e1, e2, by rw [k a (by rw [e2]; exact List.mem_cons_self)]; exact h, l, ownFs_mono hk us vs A' (fun b m => k b (by rw [e2]; exact List.mem_cons_of_mem _ m)) q⟩
  | .lst us, v, A, k, h => ownF_mono hk (.lst us) v A k h
  | .dct ks us, v, A, k, h => ownF_mono hk (.dct ks us) v A k h
  | .dcT ks us, v, A, k, h => ownF_mono hk (.dcT ks us) v A k h
  | .dcN ks us, v, A, k, h => ownF_mono hk (.dcN ks us) v A k h
  | .non, v, A, k, h => ownF_mono hk .non v A k h
  | .bl b, v, A, k, h => ownF_mono hk (.bl b) v A k h
  | .int i, v, A, k, h => ownF_mono hk (.int i) v A k h
  | .str x, v, A, k, h => ownF_mono hk (.str x) v A k h
  | .tup us, v, A, k, h => ownF_mono hk (.tup us) v A k h
  | .top x, v, A, k, h => ownF_mono hk (.top x) v A k h
  | .frl us, v, A, k, h => ownF_mono hk (.frl us) v A k h
  | .loc i, v, A, k, h => ownF_mono hk (.loc i) v A k h
theorem ownFs_len : ∀ {us : List U} {vs : List V} {A : List Addr}, ownFs G rs B us vs H A → vs.length = us.length
  | [], _, _, h => by rw [h.1]; rfl
  | u :: us, _, _, ⟨v, r, A1, A2, e1, e2, h1, h2⟩ => by rw [e1, List.length_cons, List.length_cons, ownFs_len h2]
theorem ownFs_split : ∀ {us : List U} {j : Nat} {vs : List V} {A : List Addr} {u : U}, ownFs G rs B us vs H A → us[j]? = some u → ∃ v A1 A' A2, vs[j]? = some v ∧ A = A1 ++ (A' ++ A2) ∧ ownF G rs B u v H A' ∧
    ∀ (rs2 : List Addr) (B2 : Bn) H2 u2 A'2, (∀ u v, im G rs B u v H → im G rs2 B2 u v H2) → (∀ a, a ∈ A1 ∨ a ∈ A2 → H2 a = H a) → ownF G rs2 B2 u2 v H2 A'2 → ownFs G rs2 B2 (us.set j u2) vs H2 (A1 ++ (A'2 ++ A2))
  | [], _, _, _, _, _, e => by simp at e
  | x :: us, 0, _, _, u, ⟨v, r, A1, A2, e1, e2, h1, h2⟩, e => by
    simp at e; subst e e1 e2
    exact ⟨v, [], A1, A2, rfl, rfl, h1, fun rs2 B2 H2 u2 A'2 t k p => ⟨v, r, A'2, A2, rfl, rfl, p, ownFs_mono t us r A2 (fun a m => k a (.inr m)) h2⟩⟩
  | x :: us, j + 1, _, _, u, ⟨v, r, A1, A2, e1, e2, h1, h2⟩, e => by
    obtain ⟨v', B1, B', B2, f1, f2, f3, f4⟩ := ownFs_split (j := j) h2 (by simpa using e)
    subst e1 e2 f2
    refine ⟨v', A1 ++ B1, B', B2, by simpa using f1, by simp, f3, fun rs2 B2' H2 u2 A'2 t k p => ?_⟩
    exact ⟨v, r, A1, B1 ++ (A'2 ++ B2), rfl, by simp, ownF_mono t x v A1 (fun a m => k a (.inl (List.mem_append_left _ m))) h1, f4 rs2 B2' H2 u2 A'2 t (fun a z => k a (z.imp (fun z => List.mem_append_right _ z) id)) p⟩
end
end UX

set_option Elab.async false
set_option linter.all false
set_option maxRecDepth 100000
set_option maxHeartbeats 4000000
set_option autoImplicit false
namespace UX
open PySem PySem.Spec PyProof.Rows L2
open EL (Ex RB BOk Bn TK)
abbrev Sto := List U
inductive Res (α : Type) where
  | ok (a : α) | er (e : U)
def M (α : Type) := Sto → Option (Res α × Sto)
namespace M
def ret {α : Type} (a : α) : M α := fun st => some (.ok a, st)
def fail {α : Type} : M α := fun _ => none
def raise {α : Type} (e : U) : M α := fun st => some (.er e, st)
def bind {α β : Type} (w : M α) (f : α → M β) : M β := fun st => match w st with
  | some (.ok a, st') => f a st'
  | some (.er e, st') => some (.er e, st')
  | none => none
def o {α : Type} : Option α → M α
  | some a => ret a
  | none => fail
section
variable {α β γ : Type}
@[simp] theorem bind_ret (a : α) (f : α → M β) : bind (ret a) f = f a := rfl
@[simp] theorem bind_fail (f : α → M β) : bind fail f = fail := rfl
@[simp] theorem bind_bind (w : M α) (f : α → M β) (g : β → M γ) : bind (bind w f) g = bind w fun a => bind (f a) g := by
  funext st
  unfold bind
  cases w st with
  | none => rfl
  | some p =>
    obtain ⟨r, st'⟩ := p
    cases r <;> rfl
@[simp] theorem bind_ret' (w : M α) : bind w ret = w := by
  funext st
  unfold bind ret
  cases w st with
  | none => rfl
  | some p =>
    obtain ⟨r, st'⟩ := p
    cases r <;> rfl
@[simp] theorem o_some (a : α) : o (some a) = ret a := rfl
@[simp] theorem o_none : o (none : Option α) = fail := rfl
theorem bind_inv {w : M α} {f : α → M β} {st st' : Sto} {b : β} (h : bind w f st = some (.ok b, st')) : ∃ a st1, w st = some (.ok a, st1) ∧ f a st1 = some (.ok b, st') := by
  unfold bind at h
  cases e : w st with
  | none => rw [e] at h; cases h
  | some p =>
    obtain ⟨r, st1⟩ := p
    rw [e] at h
    cases r with
    | ok a => exact ⟨a, st1, rfl, h⟩
    | er _ => cases h
theorem o_inv {x : Option α} {b : α} {st st' : Sto} (h : o x st = some (.ok b, st')) : x = some b ∧ st' = st := by
  cases x with
  | none => cases h
  | some a => cases h; exact ⟨rfl, rfl⟩
end
end M
abbrev SA := List (Addr × List Addr)
def fl (as : SA) : List Addr := (as.map (·.2)).flatten
def rts (as : SA) : List Addr := as.map (·.1)
structure Go (as as' : SA) (H H' : Hp) : Prop where
  rb : RB (· ∈ fl as) H H'
  pre : ∀ (i : Nat) (a : Addr), (rts as)[i]? = some a → (rts as')[i]? = some a
  new : ∀ a ∈ fl as', a ∈ fl as ∨ H a = none
theorem rb_alive {B : Bn} {H H' : Hp} (r : RB B H H') {a : Addr} (h : H a ≠ none) : H' a ≠ none := by
  rcases Classical.em (B a) with b | b
  · exact r.ban a b h
  · cases e : H a with
    | none => exact absurd e h
    | some o => rw [r.keep a o b e]; exact fun z => nomatch z
theorem Go.refl (as : SA) (H : Hp) : Go as as H H := ⟨RB.refl H, fun _ _ h => h, fun _ h => .inl h⟩
theorem Go.trans {as as1 as2 : SA} {H H1 H2 : Hp} (a : Go as as1 H H1) (b : Go as1 as2 H1 H2) : Go as as2 H H2 := by
  refine ⟨⟨fun x o n h => ?_, fun x xs h => b.rb.tup _ _ (a.rb.tup _ _ h), fun x o u h => b.rb.frz _ _ _ (a.rb.frz _ _ _ h), fun x _ h => rb_alive b.rb (rb_alive a.rb h)⟩, fun i x h => b.pre i x (a.pre i x h), fun x h => ?_⟩
  · refine b.rb.keep x o (fun m => ?_) (a.rb.keep x o n h)
    rcases a.new x m with z | z
    · exact n z
    · rw [h] at z; cases z
  · rcases b.new x h with z | z
    · exact a.new x z
    · rcases Classical.em (H x = none) with q | q
      · exact .inr q
      · exact absurd z (rb_alive a.rb q)
theorem Go.of_ex {as : SA} {H H' : Hp} (e : Ex H H') : Go as as H H' := ⟨RB.of_ex e, fun _ _ h => h, fun _ h => .inl h⟩
theorem Go.alive {as as' : SA} {H H' : Hp} (g : Go as as' H H') {a : Addr} (h : H a ≠ none) : H' a ≠ none := rb_alive g.rb h
theorem Go.fresh {as as' : SA} {H H' : Hp} (g : Go as as' H H') {a : Addr} (h : H' a = none) : H a = none := by
  rcases Classical.em (H a = none) with q | q
  · exact q
  · exact absurd h (g.alive q)
structure Fr where
  G : Cxt
  B : Bn
  H0 : Hp
  as0 : SA
  R : SA → Sto → Hp → U → V → Prop
def noR : SA → Sto → Hp → U → V → Prop := fun _ _ _ _ _ => True
abbrev Os := List (Nat × List Addr)
def flo (os : Os) : List Addr := (os.map (·.2)).flatten
def ban (F : Fr) (os : Os) (as : SA) : Bn := fun a => F.B a ∨ a ∈ flo os ∨ a ∈ fl as
inductive SV where
  | im (u : U)
  | own (s : Sh) (u : U)
  | raw (v : V)
abbrev Dl := List (Option SV)
def SVok (F : Fr) (os : Os) (as : SA) (i : Nat) : SV → V → Hp → Prop
  | .im u, v, H => im F.G (rts as) (ban F os as) u v H
  | .own s u, v, H => ∃ A, (i, A) ∈ os ∧ ownD F.G (rts as) (ban F os as) s u v H A
  | .raw x, v, _ => v = x
def StOk (G : Cxt) (B : Bn) (rs : List Addr) : SA → Sto → Hp → Prop
  | [], [], _ => True
  | p :: as, u :: st, H => ownC G rs B u (.ref p.1) H p.2 ∧ StOk G B rs as st H
  | _, _, _ => False
structure SDo (F : Fr) (os : Os) (as : SA) (st : Sto) (γ : List (U × V)) (H : Hp) (σ : L2.St) (δ : Dl) : Prop where
  gh : ∀ p ∈ γ, im F.G (rts as) (ban F os as) p.1 p.2 H
  rel : Go F.as0 as F.H0 H
  ok : BOk (ban F os as) H
  nd : (flo os ++ fl as).Nodup
  ix : (os.map (·.1)).Nodup
  new : ∀ a ∈ flo os, F.H0 a = none
  nb : ∀ a, a ∈ flo os ∨ a ∈ fl as → ¬ F.B a
  sto : StOk F.G (ban F os as) (rts as) as st H
  len : σ.length = δ.length
  at_ : ∀ i s, δ[i]? = some (some s) → ∃ v, σ[i]? = some (some v) ∧ SVok F os as i s v H
section
variable {F : Fr} {os : Os} {as as' : SA} {st : Sto} {γ : List (U × V)} {H H' : Hp} {σ : L2.St} {δ : Dl} {v : V} {u : U} {i : Nat}
theorem mem_flo {i : Nat} {A : List Addr} (m : (i, A) ∈ os) {a : Addr} (h : a ∈ A) : a ∈ flo os := List.mem_flatten.mpr ⟨A, List.mem_map_of_mem (f := (·.2)) m, h⟩
theorem mem_fl {p : Addr × List Addr} (m : p ∈ as) {a : Addr} (h : a ∈ p.2) : a ∈ fl as := List.mem_flatten.mpr ⟨p.2, List.mem_map_of_mem (f := (·.2)) m, h⟩
theorem im_go (g : Go as as' H H') {u : U} {v : V} (h : im F.G (rts as) (ban F os as) u v H) : im F.G (rts as') (ban F os as') u v H' := by
  have h1 : im F.G (rts as) (UX.ban F os as') u v H := im_sub (fun a n b => by
    rcases b with b | b | b
    · exact .inl b
    · exact .inr (.inl b)
    · rcases g.new a b with z | z
      · exact .inr (.inr z)
      · exact absurd z n) _ _ h
  have h2 := im_rs g.pre _ _ h1
  have h3 : im F.G (rts as') (fun a => UX.ban F os as' a ∨ a ∈ fl as) u v H := im_sub (B := UX.ban F os as) (fun a n b => by
    rcases b with (b | b | b) | b
    · exact .inl b
    · exact .inr (.inl b)
    · rcases g.new a b with z | z
      · exact .inr (.inr z)
      · exact absurd z n
    · exact .inr (.inr b)) _ _ (im_rs g.pre _ _ h)
  have h4 := im_st (g.rb.sub fun a m => Or.inr m) _ _ h3
  exact im_sub (fun a _ b => .inl b) _ _ h4
theorem imAll_go (g : Go as as' H H') : ∀ {us : List U} {vs : List V}, imAll F.G (rts as) (ban F os as) us vs H → imAll F.G (rts as') (ban F os as') us vs H'
  | [], _, h => h
  | u :: us, _, ⟨v, w, e, h1, h2⟩ => ⟨v, w, e, im_go g h1, imAll_go g h2⟩
theorem sqT_go (g : Go as as' H H') {a : Addr} {xs : List V} (h : H a = some (.tup xs)) : H' a = some (.tup xs) := g.rb.tup _ _ h
theorem own_go (g : Go as as' H H') {s : Sh} {u : U} {v : V} {A : List Addr} (h : ownD F.G (rts as) (ban F os as) s u v H A) (k : ∀ a ∈ A, a ∉ fl as) (al : ∀ a ∈ A, H a ≠ none) : ownD F.G (rts as') (ban F os as') s u v H' A :=
  own_mono (fun _ _ h => im_go g h) (fun _ _ h => sqT_go g h) s u v A (fun a m => by
    cases e : H a with
    | none => exact absurd e (al a m)
    | some o => exact g.rb.keep a o (k a m) e) h
theorem SVok.go (g : Go as as' H H') (nd : (flo os ++ fl as).Nodup) (ok : BOk (ban F os as) H) : ∀ {s : SV}, SVok F os as i s v H → SVok F os as' i s v H'
  | .im u, h => im_go g h
  | .own s u, ⟨A, m, h⟩ => ⟨A, m, own_go g h (fun a z => fun q => (List.nodup_append.mp nd).2.2 a (mem_flo m z) a q rfl) fun a z => ok a (.inr (.inl (mem_flo m z)))⟩
  | .raw x, h => h
theorem SDo.go {st' : Sto} (s : SDo F os as st γ H σ δ) (g : Go as as' H H') (nd' : (fl as').Nodup) (sto' : StOk F.G (ban F os as') (rts as') as' st' H') (al : ∀ a ∈ fl as', H' a ≠ none) : SDo F os as' st' γ H' σ δ := by
  have dis : ∀ a ∈ flo os, a ∉ fl as' := fun a m q => by
    rcases g.new a q with z | z
    · exact (List.nodup_append.mp s.nd).2.2 a m a z rfl
    · exact s.ok a (.inr (.inl m)) z
  refine ⟨fun p m => im_go g (s.gh p m), s.rel.trans g, fun a b => ?_, List.nodup_append.mpr ⟨(List.nodup_append.mp s.nd).1, nd', fun a m b q e => dis a m (e ▸ q)⟩, s.ix, s.new, fun a z => ?_, sto', s.len, fun i x e => ?_⟩
  · rcases b with b | b | b
    · exact g.alive (s.ok a (.inl b))
    · exact g.alive (s.ok a (.inr (.inl b)))
    · exact al a b
  · rcases z with z | z
    · exact s.nb a (.inl z)
    · rcases g.new a z with q | q
      · exact s.nb a (.inr q)
      · exact fun b => s.ok a (.inl b) q
  · obtain ⟨v, h1, h2⟩ := s.at_ i x e
    exact ⟨v, h1, h2.go g s.nd s.ok⟩
theorem StOk.mono {G : Cxt} {B B' : Bn} {rs rs' : List Addr} (hk : ∀ u v, im G rs B u v H → im G rs' B' u v H') (ht : ∀ a xs, H a = some (.tup xs) → H' a = some (.tup xs)) : ∀ {as : SA} {st : Sto}, (∀ a ∈ fl as, H' a = H a) → StOk G B rs as st H → StOk G B' rs' as st H'
  | [], [], _, _ => trivial
  | p :: as, s :: st, k, ⟨h1, h2⟩ => ⟨ownC_mono hk _ _ _ (fun a m => k a (mem_fl (as := p :: as) List.mem_cons_self m)) h1, StOk.mono hk ht (fun a m => k a (List.mem_append_right _ m)) h2⟩
theorem StOk.len {G : Cxt} {B : Bn} {rs : List Addr} : ∀ {as : SA} {st : Sto}, StOk G B rs as st H → as.length = st.length
  | [], [], _ => rfl
  | _ :: _, _ :: _, h => by rw [List.length_cons, List.length_cons, StOk.len h.2]
theorem SDo.ex (s : SDo F os as st γ H σ δ) (e : Ex H H') : SDo F os as st γ H' σ δ :=
  s.go (Go.of_ex e) (List.nodup_append.mp s.nd).2.1 (StOk.mono (fun _ _ h => im_st (RB.of_ex e) _ _ h) (fun _ _ h => e _ _ h) (fun a m => by
    cases q : H a with
    | none => exact absurd q (s.ok a (.inr (.inr m)))
    | some o => exact e a o q) s.sto) fun a m => (Go.of_ex (as := as) e).alive (s.ok a (.inr (.inr m)))
theorem SDo.notban {p : Addr} (s : SDo F os as st γ H σ δ) (h : H p = none) : ¬ ban F os as p := fun b => s.ok p b h
theorem SDo.get (s : SDo F os as st γ H σ δ) {x : SV} (e : δ[i]? = some (some x)) : ∃ v, σ[i]? = some (some v) ∧ SVok F os as i x v H := s.at_ i x e
theorem getElem?_lt {α : Type} {l : List α} {x : α} (e : l[i]? = some x) : i < l.length := by
  rcases Nat.lt_or_ge i l.length with z | z
  · exact z
  · rw [List.getElem?_eq_none z] at e; cases e
theorem SDo.set (s : SDo F os as st γ H σ δ) {x : SV} (h : SVok F os as i x v H) : SDo F os as st γ H (σ.set i (some v)) (δ.set i (some x)) := by
  refine ⟨s.gh, s.rel, s.ok, s.nd, s.ix, s.new, s.nb, s.sto, by rw [List.length_set, List.length_set, s.len], fun j q e => ?_⟩
  by_cases hj : i = j
  · subst hj
    have hl : i < δ.length := by have := getElem?_lt e; rwa [List.length_set] at this
    rw [List.getElem?_set_self hl] at e
    cases e
    exact ⟨v, List.getElem?_set_self (by rw [s.len]; exact hl), h⟩
  · rw [List.getElem?_set_ne hj] at e
    obtain ⟨w, h1, h2⟩ := s.at_ j q e
    exact ⟨w, by rw [List.getElem?_set_ne hj]; exact h1, h2⟩
theorem SDo.unset (s : SDo F os as st γ H σ δ) {o : Option V} : SDo F os as st γ H (σ.set i o) (δ.set i none) := by
  refine ⟨s.gh, s.rel, s.ok, s.nd, s.ix, s.new, s.nb, s.sto, by rw [List.length_set, List.length_set, s.len], fun j q e => ?_⟩
  by_cases hj : i = j
  · subst hj
    have hl : i < δ.length := by have := getElem?_lt e; rwa [List.length_set] at this
    rw [List.getElem?_set_self hl] at e
    cases e
  · rw [List.getElem?_set_ne hj] at e
    obtain ⟨w, h1, h2⟩ := s.at_ j q e
    exact ⟨w, by rw [List.getElem?_set_ne hj]; exact h1, h2⟩
def Weak : Dl → Dl → Prop
  | [], [] => True
  | _ :: a, none :: b => Weak a b
  | x :: a, y :: b => x = y ∧ Weak a b
  | _, _ => False
theorem Weak.len : ∀ {a b : Dl}, Weak a b → a.length = b.length
  | [], [], _ => rfl
  | _ :: a, none :: b, h => by rw [List.length_cons, List.length_cons, Weak.len (a := a) (b := b) h]
  | _ :: a, some _ :: b, h => by rw [List.length_cons, List.length_cons, Weak.len (a := a) (b := b) h.2]
  | [], _ :: _, h => h.elim
  | _ :: _, [], h => by cases h
theorem Weak.get : ∀ {a b : Dl} {i : Nat} {p : SV}, Weak a b → b[i]? = some (some p) → a[i]? = some (some p)
  | [], [], _, _, _, e => by simp at e
  | x :: a, none :: b, 0, p, _, e => by simp at e
  | x :: a, none :: b, i + 1, p, h, e => by
    have := Weak.get (a := a) (b := b) (i := i) (p := p) h (by simpa using e)
    simpa using this
  | x :: a, some y :: b, 0, p, h, e => by
    have e1 : y = p := by simpa using e
    rw [show x = some y from h.1, e1]; rfl
  | x :: a, some y :: b, i + 1, p, h, e => by
    have := Weak.get (a := a) (b := b) (i := i) (p := p) h.2 (by simpa using e)
    simpa using this
  | [], _ :: _, _, _, h, _ => h.elim
  | _ :: _, [], _, _, h, _ => by cases h
theorem SDo.weak {δ' : Dl} (s : SDo F os as st γ H σ δ) (w : Weak δ δ') : SDo F os as st γ H σ δ' := ⟨s.gh, s.rel, s.ok, s.nd, s.ix, s.new, s.nb, s.sto, s.len.trans w.len, fun i p e => s.at_ i p (w.get e)⟩
def rd (F : Fr) (os : Os) (as : SA) : U → V → Hp → Prop
  | .lst us, v, H => ∃ a vs, v = .ref a ∧ ¬ ban F [] as a ∧ H a = some (.lst vs) ∧ imAll F.G (rts as) (ban F os as) us vs H
  | .dct ks us, v, H => ∃ a vs, v = .ref a ∧ ¬ ban F [] as a ∧ Rd H a (.dK (ks.zip vs)) ∧ ks.length = us.length ∧ imAll F.G (rts as) (ban F os as) us vs H
  | .dcT ks us, v, H => ∃ a vs, v = .ref a ∧ ¬ ban F [] as a ∧ Rd H a (.dT (ks.zip vs)) ∧ ks.length = us.length ∧ imAll F.G (rts as) (ban F os as) us vs H
  | .dcN ks us, v, H => ∃ a kvs, v = .ref a ∧ ¬ ban F [] as a ∧ Rd H a (DNo a kvs) ∧ nk8s ks = some (kvs.map (·.1)) ∧ imAll F.G (rts as) (ban F os as) ks (nkA kvs) H ∧ imAll F.G (rts as) (ban F os as) us (nkV kvs) H
  | .obj c ns us, v, H => ∃ a dx vs, v = .ref a ∧ ¬ ban F [] as a ∧ H a = some (.ins (F.G.at_ c) dx (ns.zip vs)) ∧ ns.length = us.length ∧ imAll F.G (rts as) (ban F os as) us vs H
  | u, v, H => im F.G (rts as) (ban F os as) u v H
theorem ban_nil {a : Addr} (n : ¬ ban F os as a) : ¬ ban F [] as a := fun b => n (b.elim .inl fun b => b.elim (fun z => nomatch z) fun z => .inr (.inr z))
theorem rd_of_im : ∀ {u : U}, im F.G (rts as) (ban F os as) u v H → rd F os as u v H
  | .non, h | .bl _, h | .int _, h | .str _, h | .tup _, h | .top _, h | .frl _, h | .loc _, h => h
  | .lst us, ⟨a, vs, e, n, h⟩ => ⟨a, vs, e, ban_nil n, h⟩
  | .dct ks us, ⟨a, vs, e, n, h⟩ => ⟨a, vs, e, ban_nil n, h⟩
  | .dcT ks us, ⟨a, vs, e, n, h⟩ => ⟨a, vs, e, ban_nil n, h⟩
  | .dcN ks us, ⟨a, vs, e, n, h⟩ => ⟨a, vs, e, ban_nil n, h⟩
  | .obj c ns us, ⟨a, dx, vs, e, n, h⟩ => ⟨a, dx, vs, e, ban_nil n, h⟩
abbrev noB : Bn := fun _ => False
theorem sub0 {B : Bn} {G : Cxt} {rs : List Addr} {u : U} (h : im G rs B u v H) : im G rs noB u v H := im_sub (B := B) (fun _ _ (z : False) => False.elim z) u v h
theorem imAll_none {G : Cxt} {rs : List Addr} {B : Bn} {us : List U} {vs : List V} (h : imAll G rs B us vs H) : imAll G rs noB us vs H := imAll_sub (B := B) (fun _ _ (z : False) => False.elim z) us vs h
theorem rd_im0 : ∀ {u : U}, rd F os as u v H → im F.G (rts as) noB u v H
  | .non, h | .bl _, h | .int _, h | .str _, h | .tup _, h | .top _, h | .frl _, h | .loc _, h => sub0 (B := ban F os as) h
  | .lst us, ⟨a, vs, e, _, h, q⟩ => ⟨a, vs, e, fun z => z, h, imAll_none q⟩
  | .dct ks us, ⟨a, vs, e, _, h, l, q⟩ => ⟨a, vs, e, fun z => z, h, l, imAll_none q⟩
  | .dcT ks us, ⟨a, vs, e, _, h, l, q⟩ => ⟨a, vs, e, fun z => z, h, l, imAll_none q⟩
  | .dcN ks us, ⟨a, vs, e, _, h, l, q1, q⟩ => ⟨a, vs, e, fun z => z, h, l, imAll_none q1, imAll_none q⟩
  | .obj c ns us, ⟨a, dx, vs, e, _, h, l, q⟩ => ⟨a, dx, vs, e, fun z => z, h, l, imAll_none q⟩
theorem rd_dp {d : PyData} (h : rd F os as u v H) (e : pd u = some d) : Dp F.G.K H v d := im_dp _ _ _ (rd_im0 h) e
theorem Go.off (g : Go as as' H H') {a : Addr} (n : ¬ ban F [] as a) (h : H a ≠ none) : ¬ ban F [] as' a := fun m => by
  rcases m with z | z | z
  · exact n (.inl z)
  · cases z
  · rcases g.new a z with z | z
    · exact n (.inr (.inr z))
    · exact h z
theorem nfl {a : Addr} (n : ¬ ban F [] as a) : a ∉ fl as := fun m => n (.inr (.inr m))
theorem rd_go (g : Go as as' H H') : ∀ {u : U}, rd F os as u v H → rd F os as' u v H'
  | .non, h | .bl _, h | .int _, h | .str _, h | .tup _, h | .top _, h | .frl _, h | .loc _, h => im_go (F := F) (os := os) g h
  | .lst us, ⟨a, vs, e, n, h, q⟩ => ⟨a, vs, e, g.off n (by rw [h]; exact fun z => nomatch z), g.rb.keep _ _ (nfl n) h, imAll_go g q⟩
  | .dct ks us, ⟨a, vs, e, n, h, l, q⟩ => ⟨a, vs, e, g.off n (rd_ne h), (kd_of g.rb).dK _ _ (nfl n) h, l, imAll_go g q⟩
  | .dcT ks us, ⟨a, vs, e, n, h, l, q⟩ => ⟨a, vs, e, g.off n (rd_ne h), (kd_of g.rb).dT _ _ (nfl n) h, l, imAll_go g q⟩
  | .dcN ks us, ⟨a, vs, e, n, h, l, q1, q⟩ => ⟨a, vs, e, g.off n (rd_ne h), (kd_of g.rb).dN _ _ _ (nfl n) h, l, imAll_go g q1, imAll_go g q⟩
  | .obj c ns us, ⟨a, dx, vs, e, n, h, l, q⟩ => ⟨a, dx, vs, e, g.off n (by rw [h]; exact fun z => nomatch z), g.rb.keep _ _ (nfl n) h, l, imAll_go g q⟩
end
section
variable (F : Fr)
abbrev PP (α : Type) := Os → SA → Hp → α → V → Hp → Prop
def EvP {α : Type} (P : PP α) (te : TE) (δ : Dl) (w : M α) : Prop := ∀ os as st γ σ H a st', SDo F os as st γ H σ δ → w st = some (.ok a, st') → ∀ QQ : VK, (∀ v H' as', Go as as' H H' → SDo F os as' st' γ H' σ δ → P os as' H a v H' → QQ v H') → te σ H QQ
def EvW : TE → Dl → M U → Prop := EvP F fun os as _ u v H => im F.G (rts as) (ban F os as) u v H
def EvR : TE → Dl → M U → Prop := EvP F fun os as _ u v H => rd F os as u v H
def EvN (s : Sh) (te : TE) (δ : Dl) (w : M U) : Prop := ∀ os as st γ σ H a st', SDo F os as st γ H σ δ → w st = some (.ok a, st') → ∀ QQ : VK, (∀ v H' as' A, Go as as' H H' → (∀ k, k ∉ os.map (·.1) → SDo F ((k, A) :: os) as' st' γ H' σ δ) → ownD F.G (rts as') (ban F ((0, A) :: os) as') s a v H' A → (∀ a ∈ A, H a = none) → QQ v H') → te σ H QQ
def EvT (tt : TT) (δ : Dl) (w : M Bool) : Prop := ∀ os as st γ σ H a st', SDo F os as st γ H σ δ → w st = some (.ok a, st') → ∀ QQ : Bool → Hp → Prop, (∀ H' as', Go as as' H H' → SDo F os as' st' γ H' σ δ → QQ a H') → tt σ H QQ
def EvO (to : TO) (δ : Dl) (w : M (Option Int)) : Prop := ∀ os as st γ σ H a st', SDo F os as st γ H σ δ → w st = some (.ok a, st') → ∀ QQ : Option Int → Hp → Prop, (∀ H' as', Go as as' H H' → SDo F os as' st' γ H' σ δ → QQ a H') → to σ H QQ
def EvA (P : Os → SA → List U → List V → Hp → Prop) (ta : TA) (δ : Dl) (w : M (List U)) : Prop := ∀ os as st γ σ H us st', SDo F os as st γ H σ δ → w st = some (.ok us, st') → ∀ QQ : List V → Hp → Prop, (∀ vs H' as', Go as as' H H' → SDo F os as' st' γ H' σ δ → P os as' us vs H' → QQ vs H') → ta σ H QQ
def EvAW : TA → Dl → M (List U) → Prop := EvA F fun os as us vs H => imAll F.G (rts as) (ban F os as) us vs H
end
inductive Out (S L : Type) where
  | nx (s : S) | rt (u : U) | bk (l : L) | ct (l : L)
structure Rt (F : Fr) (as : SA) (st : Sto) (H : Hp) (u : U) (v : V) : Prop where
  rel : Go F.as0 as F.H0 H
  ok : BOk (ban F [] as) H
  nd : (fl as).Nodup
  nb : ∀ a ∈ fl as, ¬ F.B a
  sto : StOk F.G (ban F [] as) (rts as) as st H
  im : im F.G (rts as) (ban F [] as) u v H
  r : F.R as st H u v
def Post (F : Fr) {S L : Type} (D : Ends) (γ : List (U × V)) (st : Sto) (δn : S → Dl) (δl : L → Dl) : Out S L → Prop
  | .nx s => ∀ os as σ H, SDo F os as st γ H σ (δn s) → D.nx σ H
  | .rt u => ∀ as v H, Rt F as st H u v → D.rt v H
  | .bk l => ∀ os as σ H, SDo F os as st γ H σ (δl l) → D.bk σ H
  | .ct l => ∀ os as σ H, SDo F os as st γ H σ (δl l) → D.ct σ H
def Blk (F : Fr) {S L : Type} (t : TS) (δ : Dl) (w : M (Out S L)) (δn : S → Dl) (δl : L → Dl) : Prop := ∀ D os as st γ σ H o st', SDo F os as st γ H σ δ → w st = some (.ok o, st') → Post F D γ st' δn δl o → t D σ H
end UX

set_option Elab.async false
set_option linter.all false
set_option maxRecDepth 100000
set_option maxHeartbeats 4000000
set_option autoImplicit false
namespace UX
open PySem PySem.Spec PyProof.Rows L2
open EL (Ex RB BOk Bn TK rAddU rMulU rSlU rEqU rNeU rLtU rLenQ rTupQ rListQ rReprD cut)
def addU : U → U → Option U
  | .int i, .int j => some (.int (i + j))
  | .tup a, .tup b => if a.length + b.length ≤ sizeLine then some (.tup (a ++ b)) else none
  | .lst a, .lst b => if a.length + b.length ≤ sizeLine then some (.lst (a ++ b)) else none
  | .str a, .str b => if a.length + b.length ≤ sizeLine then some (.str (a ++ b)) else none
  | _, _ => none
def subU : U → U → Option U
  | .int i, .int j => some (.int (i - j))
  | _, _ => none
instance (i j : Int) : Decidable (CMul i j) := by unfold CMul; infer_instance
instance (i j : Int) : Decidable (CDivN i j) := by unfold CDivN; infer_instance
instance (i j : Int) : Decidable (CPow i j) := by unfold CPow; infer_instance
def mulU : U → U → Option U
  | .int i, .int j => if CMul i j then some (.int (i * j)) else none
  | .tup a, .int k => if 0 ≤ k ∧ k ≤ 1000 ∧ a.length ≤ 1000 then some (.tup (List.replicate k.toNat a).flatten) else none
  | .lst a, .int k => if 0 ≤ k ∧ k ≤ 1000000 ∧ a.length * k.toNat ≤ sizeLine then some (.lst (List.replicate k.toNat a).flatten) else none
  | _, _ => none
def modU : U → U → Option U
  | .int i, .int j => if j ≠ 0 then some (.int (i.fmod j)) else none
  | _, _ => none
def fdivU : U → U → Option U
  | .int i, .int j => if CDivN i j then some (.int (i.fdiv j)) else none
  | _, _ => none
def powU : U → U → Option U
  | .int i, .int j => if CPow i j then some (.int (i ^ j.toNat)) else none
  | _, _ => none
def negU : U → Option U
  | .int i => some (.int (-i))
  | _ => none
def leU : U → U → Option U
  | .int i, .int j => some (.bl (decide (i ≤ j)))
  | _, _ => none
def gtU : U → U → Option U
  | .int i, .int j => some (.bl (decide (j < i)))
  | _, _ => none
def geU : U → U → Option U
  | .int i, .int j => some (.bl (decide (j ≤ i)))
  | _, _ => none
def notNone : PyData → Bool
  | .none => false
  | _ => true
theorem notNone_ne {d : PyData} (h : notNone d = true) : d ≠ .none := fun e => by rw [e] at h; cases h
def ltU : U → U → Option U
  | .int i, .int j => some (.bl (decide (i < j)))
  | a, b => match pd a, pd b with
    | some d, some e => if PySem.W.alike d e = true ∧ notNone d = true ∧ d.depth ≤ 64 then some (.bl (PySem.W.dataLt d e)) else none
    | _, _ => none
def eqD (a b : U) : Option U := match pd a, pd b with
  | some d, some e => if SeqAt.shaped d = true ∧ SeqAt.shaped e = true then some (.bl (PyData.eqv d e)) else none
  | _, _ => none
def neD (a b : U) : Option U := match pd a, pd b with
  | some d, some e => if SeqAt.shaped d = true ∧ SeqAt.shaped e = true then some (.bl (!PyData.eqv d e)) else none
  | _, _ => none
def eqU : U → U → Option U
  | .str x, .str y => some (.bl (decide (x = y)))
  | a, b => eqD a b
def neU : U → U → Option U
  | .str x, .str y => some (.bl (!decide (x = y)))
  | a, b => neD a b
def isNU : U → Bool
  | .non => true
  | _ => false
def ixU : U → U → Option U
  | .lst us, .int i => atI us i
  | .tup us, .int i => atI us i
  | .frl us, .int i => atI us i
  | _, _ => none
def slU : U → Option Int → Option Int → Option U
  | .lst us, lo, hi => some (.lst (cut us lo hi))
  | .tup us, lo, hi => some (.tup (cut us lo hi))
  | .frl us, lo, hi => some (.lst (cut us lo hi))
  | _, _, _ => none
def lenU : U → Option U
  | .lst us => some (.int us.length)
  | .tup us => some (.int us.length)
  | .frl us => some (.int us.length)
  | _ => none
def tupleU : U → Option U
  | .lst us => some (.tup us)
  | .tup us => some (.tup us)
  | _ => none
def listU : U → Option U
  | .lst us => some (.lst us)
  | .tup us => some (.lst us)
  | _ => none
def boolsU : List U → Option (List Bool)
  | [] => some []
  | .bl b :: r => (boolsU r).map (b :: ·)
  | _ => none
def allU : U → Option U
  | .lst us => (boolsU us).map fun bs => .bl (bs.all id)
  | _ => none
def anyU : U → Option U
  | .lst us => (boolsU us).map fun bs => .bl (bs.any id)
  | _ => none
def tyU : U → Option String
  | .non => some "NoneType"
  | .bl _ => some "bool"
  | .int _ => some "int"
  | .str _ => some "str"
  | .tup _ => some "tuple"
  | .lst _ => some "list"
  | .dct _ _ => some "dict"
  | _ => none
def subT (a b : String) : Bool := a == b || (a == "bool" && b == "int")
def isiU (u : U) (T : String) : Option U := match tyU u with
  | some t => if ["int", "bool", "str", "tuple", "list", "dict"].contains T then some (.bl (subT t T)) else none
  | none => none
theorem kit_all : (["NoneType", "bool", "int", "str", "tuple", "list", "dict"].all fun a => ["int", "bool", "str", "tuple", "list", "dict"].all fun b => kitB a b == some (subT a b)) = true := by decide +kernel
theorem kit_is {u : U} {t T : String} (h : tyU u = some t) (hT : ["int", "bool", "str", "tuple", "list", "dict"].contains T = true) : kitB t T = some (subT t T) := by
  have h1 : t ∈ ["NoneType", "bool", "int", "str", "tuple", "list", "dict"] := by
    cases u <;> simp [tyU] at h <;> subst h <;> decide
  have h2 := List.all_eq_true.mp (List.all_eq_true.mp kit_all t h1) T (by simpa using hT)
  simpa using h2
def reprU (u : U) : Option U := match pd u with
  | some d => if d.showable = true ∧ d.hasDict = false ∧ d.depth ≤ 64 ∧ d.shown.length ≤ sizeLine then some (.str d.shown) else none
  | none => none
def notU : U → Option U
  | .bl b => some (.bl (!b))
  | _ => none
def boolU : U → Option Bool
  | .bl b => some b
  | _ => none
def intU : U → Option Int
  | .int i => some i
  | _ => none
section
variable {F : Fr}
def OpOk (F : Fr) (r : R2) (f : U → U → Option U) : Prop := ∀ os as H a b c x y, BOk (ban F os as) H → rd F os as a x H → rd F os as b y H → f a b = some c → ∀ QQ : VK, (∀ v H', Ex H H' → im F.G (rts as) (ban F os as) c v H' → QQ v H') → r x y H QQ
def Op1Ok (F : Fr) (r : List V → Hp → VK → Prop) (f : U → Option U) : Prop := ∀ os as H a c x, BOk (ban F os as) H → rd F os as a x H → f a = some c → ∀ QQ : VK, (∀ v H', Ex H H' → im F.G (rts as) (ban F os as) c v H' → QQ v H') → r [x] H QQ
theorem op_I0 {g : Int → Int → V} {f : U → U → Option U} (hf : ∀ a b c, f a b = some c → ∃ i j, a = .int i ∧ b = .int j ∧ ∀ os as H, im F.G (rts as) (ban F os as) c (g i j) H) : OpOk F (rI0 g) f := fun os as H a b c x y ok ha hb e QQ k => by
  obtain ⟨i, j, rfl, rfl, h⟩ := hf a b c e
  exact ⟨i, j, ha, hb, k _ H (Ex.refl H) (h os as H)⟩
theorem ok_le : OpOk F (rI0 fun i j => .bl (decide (i ≤ j))) leU := op_I0 fun a b c e => by
  cases a <;> cases b <;> simp [leU] at e
  subst e; exact ⟨_, _, rfl, rfl, fun _ _ _ => rfl⟩
theorem ok_gt : OpOk F (rI0 fun i j => .bl (decide (j < i))) gtU := op_I0 fun a b c e => by
  cases a <;> cases b <;> simp [gtU] at e
  subst e; exact ⟨_, _, rfl, rfl, fun _ _ _ => rfl⟩
theorem ok_ge : OpOk F (rI0 fun i j => .bl (decide (j ≤ i))) geU := op_I0 fun a b c e => by
  cases a <;> cases b <;> simp [geU] at e
  subst e; exact ⟨_, _, rfl, rfl, fun _ _ _ => rfl⟩
theorem ok_mod : OpOk F (rI (fun _ j => j ≠ 0) fun i j => .int (i.fmod j)) modU := fun os as H a b c x y ok ha hb e QQ k => by
  cases a <;> cases b <;> simp [modU] at e
  rename_i i j
  obtain ⟨h0, rfl⟩ := e
  exact ⟨i, j, ha, hb, h0, k _ H (Ex.refl H) rfl⟩
theorem ok_fdiv : OpOk F (rI CDivN fun i j => .int (i.fdiv j)) fdivU := fun os as H a b c x y ok ha hb e QQ k => by
  cases a <;> cases b <;> simp [fdivU] at e
  rename_i i j
  obtain ⟨h0, rfl⟩ := e
  exact ⟨i, j, ha, hb, h0, k _ H (Ex.refl H) rfl⟩
theorem ok_pow : OpOk F (rI CPow fun i j => .int (i ^ j.toNat)) powU := fun os as H a b c x y ok ha hb e QQ k => by
  cases a <;> cases b <;> simp [powU] at e
  rename_i i j
  obtain ⟨h0, rfl⟩ := e
  exact ⟨i, j, ha, hb, h0, k _ H (Ex.refl H) rfl⟩
theorem ok_add : OpOk F (rAddU F.G.K) addU := fun os as H a b c x y ok ha hb e QQ k => by
  cases a <;> cases b <;> simp [addU] at e
  · subst e; exact .inl ⟨_, _, ha, hb, k _ H (Ex.refl H) rfl⟩
  · obtain ⟨hl, rfl⟩ := e; exact .inr (.inr (.inr ⟨_, _, ha, hb, hl, k _ H (Ex.refl H) rfl⟩))
  · obtain ⟨hl, rfl⟩ := e
    rename_i us vs
    obtain ⟨a, xs, rfl, ta, qa⟩ := ha
    obtain ⟨b, ys, rfl, tb, qb⟩ := hb
    refine .inr (.inl ⟨a, b, xs, ys, rfl, rfl, EL.sqT_of ta, EL.sqT_of tb, by rw [imAll_len qa, imAll_len qb]; exact hl, fun z => ?_, fun _ z => ?_, fun _ _ p hp => ?_⟩)
    · subst z
      have : us = [] := List.eq_nil_of_length_eq_zero (imAll_len qa).symm
      subst this
      exact k _ H (Ex.refl H) ⟨b, ys, rfl, tb, qb⟩
    · subst z
      have : vs = [] := List.eq_nil_of_length_eq_zero (imAll_len qb).symm
      subst this
      exact k _ H (Ex.refl H) (by rw [List.append_nil]; exact ⟨a, xs, rfl, ta, qa⟩)
    · exact k _ _ (Ex.new hp) ⟨p, xs ++ ys, rfl, upd_same, imAll_st (RB.of_ex (Ex.new hp)) _ _ (imAll_append qa qb)⟩
  · obtain ⟨hl, rfl⟩ := e
    obtain ⟨a, xs, rfl, na, ta, qa⟩ := ha
    obtain ⟨b, ys, rfl, nb, tb, qb⟩ := hb
    exact .inr (.inr (.inl ⟨a, b, xs, ys, rfl, rfl, ta, tb, by rw [imAll_len qa, imAll_len qb]; exact hl, fun p hp => k _ _ (Ex.new hp) ⟨p, xs ++ ys, rfl, fun z => ok p z hp, upd_same, imAll_st (RB.of_ex (Ex.new hp)) _ _ (imAll_append qa qb)⟩⟩))
theorem ok_mul : OpOk F (rMulU F.G.K) mulU := fun os as H a b c x y ok ha hb e QQ k => by
  cases a <;> cases b <;> simp [mulU] at e
  · obtain ⟨hc, rfl⟩ := e; exact .inl ⟨_, _, ha, hb, hc, k _ H (Ex.refl H) rfl⟩
  · obtain ⟨⟨h0, h1, hl⟩, rfl⟩ := e
    rename_i us i
    obtain ⟨a, xs, rfl, ta, qa⟩ := ha
    refine .inr (.inl ⟨a, i, xs, rfl, hb, EL.sqT_of ta, h0, h1, by rw [imAll_len qa]; exact hl, fun z => k _ H (Ex.refl H) ⟨a, xs, rfl, ta, ?_⟩, fun _ _ p hp => k _ _ (Ex.new hp) ⟨p, _, rfl, upd_same, imAll_st (RB.of_ex (Ex.new hp)) _ _ (imAll_rep qa _)⟩⟩)
    rcases z with z | z
    · subst z
      have : us = [] := List.eq_nil_of_length_eq_zero (imAll_len qa).symm
      subst this
      rw [show (List.replicate i.toNat ([] : List U)).flatten = [] by simp]
      exact qa
    · subst z
      rw [show (List.replicate (1 : Int).toNat us).flatten = us by simp]
      exact qa
  · obtain ⟨⟨h0, h1, hl⟩, rfl⟩ := e
    rename_i us i
    obtain ⟨a, xs, rfl, na, ta, qa⟩ := ha
    exact .inr (.inr ⟨a, i, xs, rfl, hb, ta, by omega, by omega, by rw [imAll_len qa]; exact hl, fun p hp => k _ _ (Ex.new hp) ⟨p, _, rfl, fun z => ok p z hp, upd_same, imAll_st (RB.of_ex (Ex.new hp)) _ _ (imAll_rep qa _)⟩⟩)
theorem ok_eqD : OpOk F (rEqU F.G.K) eqD := fun os as H a b c x y ok ha hb e QQ k => by
  unfold eqD at e
  cases e1 : pd a with
  | none => rw [e1] at e; cases e
  | some d =>
    cases e2 : pd b with
    | none => rw [e1, e2] at e; cases e
    | some d' =>
      rw [e1, e2] at e
      simp at e
      obtain ⟨⟨h1, h2⟩, rfl⟩ := e
      exact .inl ⟨d, d', rd_dp ha e1, rd_dp hb e2, h1, h2, k _ H (Ex.refl H) rfl⟩
theorem ok_neD : OpOk F (rNeU F.G.K) neD := fun os as H a b c x y ok ha hb e QQ k => by
  unfold neD at e
  cases e1 : pd a with
  | none => rw [e1] at e; cases e
  | some d =>
    cases e2 : pd b with
    | none => rw [e1, e2] at e; cases e
    | some d' =>
      rw [e1, e2] at e
      simp at e
      obtain ⟨⟨h1, h2⟩, rfl⟩ := e
      exact .inl ⟨d, d', rd_dp ha e1, rd_dp hb e2, h1, h2, k _ H (Ex.refl H) rfl⟩
theorem ok_eq : OpOk F (rEqU F.G.K) eqU := fun os as H a b c x y ok ha hb e QQ k => by
  by_cases h : ∃ s t, a = .str s ∧ b = .str t
  · obtain ⟨s, t, rfl, rfl⟩ := h
    cases e
    cases (show x = V.str s from ha); cases (show y = V.str t from hb)
    exact .inr ⟨rfl, k _ H (Ex.refl H) (by show V.bl _ = V.bl _; congr 1; by_cases z : s = t <;> simp [z])⟩
  · exact ok_eqD os as H a b c x y ok ha hb (by
      unfold eqU at e
      split at e
      · exact absurd ⟨_, _, rfl, rfl⟩ h
      · exact e) QQ k
theorem ok_ne : OpOk F (rNeU F.G.K) neU := fun os as H a b c x y ok ha hb e QQ k => by
  by_cases h : ∃ s t, a = .str s ∧ b = .str t
  · obtain ⟨s, t, rfl, rfl⟩ := h
    cases e
    cases (show x = V.str s from ha); cases (show y = V.str t from hb)
    exact .inr ⟨rfl, k _ H (Ex.refl H) (by show V.bl _ = V.bl _; congr 2; by_cases z : s = t <;> simp [z])⟩
  · exact ok_neD os as H a b c x y ok ha hb (by
      unfold neU at e
      split at e
      · exact absurd ⟨_, _, rfl, rfl⟩ h
      · exact e) QQ k
theorem ok_lt : OpOk F (rLtU F.G.K) ltU := fun os as H a b c x y ok ha hb e QQ k => by
  have gen : ∀ {a b : U} {x y : V}, rd F os as a x H → rd F os as b y H → (match pd a, pd b with
    | some d, some e => if PySem.W.alike d e = true ∧ notNone d = true ∧ d.depth ≤ 64 then some (U.bl (PySem.W.dataLt d e)) else none
    | _, _ => none) = some c → rLtU F.G.K x y H QQ := fun {a b x y} ha hb e => by
    cases e1 : pd a with
    | none => rw [e1] at e; cases e
    | some d =>
      cases e2 : pd b with
      | none => rw [e1, e2] at e; cases e
      | some d' =>
        rw [e1, e2] at e
        simp at e
        obtain ⟨⟨h1, h2, h3⟩, rfl⟩ := e
        exact .inr ⟨d, d', rd_dp ha e1, rd_dp hb e2, h1, notNone_ne h2, h3, k _ H (Ex.refl H) rfl⟩
  cases a with
  | int i =>
    cases b with
    | int j => simp [ltU] at e; subst e; exact .inl ⟨i, j, ha, hb, k _ H (Ex.refl H) rfl⟩
    | _ => exact gen ha hb e
  | _ => exact gen ha hb e
theorem atI_im {G : Cxt} {rs : List Addr} {B : Bn} {H : Hp} {us : List U} {vs : List V} {i : Int} {u : U} (h : imAll G rs B us vs H) (e : atI us i = some u) : ∃ v, atI vs i = some v ∧ im G rs B u v H := by
  unfold atI at e ⊢
  rw [imAll_len h]
  cases q : ixN us.length i with
  | none => rw [q] at e; cases e
  | some j =>
    rw [q] at e
    exact imAll_get h (show us[j]? = some u from e)
theorem ok_ix : OpOk F (rIx F.G.K) ixU := fun os as H a b c x y ok ha hb e QQ k => by
  cases a <;> cases b <;> simp [ixU] at e
  · obtain ⟨a, xs, rfl, ta, qa⟩ := ha
    obtain ⟨v, e1, e2⟩ := atI_im qa e
    exact .inr (.inl ⟨a, xs, _, v, rfl, hb, EL.sqT_of ta, e1, k v H (Ex.refl H) e2⟩)
  · obtain ⟨a, xs, rfl, _, ta, qa⟩ := ha
    obtain ⟨v, e1, e2⟩ := atI_im qa e
    exact .inl ⟨a, xs, _, v, rfl, hb, .inl (.inl ta), e1, k v H (Ex.refl H) e2⟩
  · obtain ⟨a, xs, rfl, ta, qa⟩ := ha
    obtain ⟨v, e1, e2⟩ := atI_im qa e
    exact .inl ⟨a, xs, _, v, rfl, hb, ta.sq, e1, k v H (Ex.refl H) e2⟩
theorem ok_len : Op1Ok F (rLenQ F.G.K) lenU := fun os as H a c x ok ha e QQ k => by
  cases a <;> simp [lenU] at e <;> subst e
  · obtain ⟨a, xs, rfl, ta, qa⟩ := ha
    exact ⟨a, xs, rfl, .inr (EL.sqT_of ta), k _ H (Ex.refl H) (by rw [imAll_len qa]; rfl)⟩
  · obtain ⟨a, xs, rfl, _, ta, qa⟩ := ha
    exact ⟨a, xs, rfl, .inl (.inl (.inl ta)), k _ H (Ex.refl H) (by rw [imAll_len qa]; rfl)⟩
  · obtain ⟨a, xs, rfl, ta, qa⟩ := ha
    exact ⟨a, xs, rfl, .inl ta.sq, k _ H (Ex.refl H) (by rw [imAll_len qa]; rfl)⟩
theorem ok_tuple : Op1Ok F (rTupQ F.G.K) tupleU := fun os as H a c x ok ha e QQ k => by
  cases a <;> simp [tupleU] at e <;> subst e
  · obtain ⟨a, xs, rfl, ta, qa⟩ := ha
    exact ⟨a, xs, rfl, .inr ⟨EL.sqT_of ta, k _ H (Ex.refl H) ⟨a, xs, rfl, ta, qa⟩⟩⟩
  · obtain ⟨a, xs, rfl, _, ta, qa⟩ := ha
    exact ⟨a, xs, rfl, .inl ⟨.inl (.inl ta), fun l hl => k _ _ (Ex.new hl) ⟨l, xs, rfl, upd_same, imAll_st (RB.of_ex (Ex.new hl)) _ _ qa⟩⟩⟩
theorem ok_list : Op1Ok F (rListQ F.G.K) listU := fun os as H a c x ok ha e QQ k => by
  cases a <;> simp [listU] at e <;> subst e
  · obtain ⟨a, xs, rfl, ta, qa⟩ := ha
    exact ⟨a, xs, rfl, .inr (EL.sqT_of ta), fun l hl => k _ _ (Ex.new hl) ⟨l, xs, rfl, fun z => ok l z hl, upd_same, imAll_st (RB.of_ex (Ex.new hl)) _ _ qa⟩⟩
  · obtain ⟨a, xs, rfl, _, ta, qa⟩ := ha
    exact ⟨a, xs, rfl, .inl (.inl (.inl ta)), fun l hl => k _ _ (Ex.new hl) ⟨l, xs, rfl, fun z => ok l z hl, upd_same, imAll_st (RB.of_ex (Ex.new hl)) _ _ qa⟩⟩
theorem imAll_bools {G : Cxt} {rs : List Addr} {B : Bn} {H : Hp} : ∀ {us : List U} {bs : List Bool} {vs : List V}, boolsU us = some bs → imAll G rs B us vs H → vs = bs.map V.bl
  | [], bs, vs, e, h => by cases e; exact h
  | .bl b :: r, bs, vs, e, ⟨v, w, ev, h1, h2⟩ => by
    cases e1 : boolsU r with
    | none => rw [boolsU, e1] at e; cases e
    | some cs =>
      rw [boolsU, e1] at e; cases e
      rw [ev, show v = _ from h1, imAll_bools e1 h2]; rfl
theorem ok_all : Op1Ok F (rAll F.G.K) allU := fun os as H a c x ok ha e QQ k => by
  cases a <;> simp [allU] at e
  obtain ⟨bs, e1, rfl⟩ := e
  obtain ⟨a, xs, rfl, _, ta, qa⟩ := ha
  rw [imAll_bools e1 qa] at ta
  exact ⟨a, bs, rfl, .inl (.inl ta), k _ H (Ex.refl H) rfl⟩
theorem ok_any : Op1Ok F (rAny F.G.K) anyU := fun os as H a c x ok ha e QQ k => by
  cases a <;> simp [anyU] at e
  obtain ⟨bs, e1, rfl⟩ := e
  obtain ⟨a, xs, rfl, _, ta, qa⟩ := ha
  rw [imAll_bools e1 qa] at ta
  exact ⟨a, bs, rfl, .inl (.inl ta), k _ H (Ex.refl H) rfl⟩
theorem ok_repr : Op1Ok F (rReprD F.G.K) reprU := fun os as H a c x ok ha e QQ k => by
  unfold reprU at e
  cases e1 : pd a with
  | none => rw [e1] at e; cases e
  | some d =>
    rw [e1] at e
    simp at e
    obtain ⟨⟨h1, h2, h3, h4⟩, rfl⟩ := e
    exact ⟨x, d, rfl, rd_dp ha e1, h1, h2, h3, h4, k _ H (Ex.refl H) rfl⟩
theorem rd_ty {os : Os} {as : SA} {H : Hp} : ∀ {u : U} {v : V} {t : String}, tyU u = some t → rd F os as u v H → TyX F.G.K H v (.type t)
  | .non, _, _, e, h => by cases e; cases (show _ = _ from h); exact .base .non
  | .bl _, _, _, e, h => by cases e; cases (show _ = _ from h); exact .base (.bl _)
  | .int _, _, _, e, h => by cases e; cases (show _ = _ from h); exact .base (.int _)
  | .str _, _, _, e, h => by cases e; cases (show _ = _ from h); exact .base (.str _)
  | .tup us, _, _, e, ⟨a, vs, ev, s, _⟩ => by
    cases e; subst ev
    exact .base (.tup s)
  | .lst us, _, _, e, ⟨a, vs, ev, _, s, _⟩ => by
    cases e; subst ev
    exact .base (.lst s)
  | .dct ks us, _, _, e, ⟨a, vs, ev, _, s, _, _⟩ => by
    cases e; subst ev
    rcases s with s | ⟨o, s⟩
    · exact .base (.dK s)
    · exact .fDict s
end
end UX

set_option Elab.async false
set_option linter.all false
set_option maxRecDepth 100000
set_option maxHeartbeats 4000000
set_option autoImplicit false
namespace UX
open PySem PySem.Spec PyProof.Rows L2
open EL (Ex RB BOk Bn TK rAddU rMulU rSlU rEqU rNeU rLtU rLenQ rTupQ rListQ rReprD cut)
def op1 (f : U → Option U) (wa : M U) : M U := .bind wa fun a => .o (f a)
def op2 (f : U → U → Option U) (wa wb : M U) : M U := .bind wa fun a => .bind wb fun b => .o (f a b)
def testW (wa : M U) : M Bool := .bind wa fun a => .o (boolU a)
def notT (w : M Bool) : M Bool := .bind w fun b => .ret (!b)
def andT (w w' : M Bool) : M Bool := .bind w fun b => if b = true then w' else .ret false
def orT (w w' : M Bool) : M Bool := .bind w fun b => if b = true then .ret true else w'
def andW (w w' : M U) : M U := .bind (testW w) fun b => if b = true then w' else .ret (.bl false)
def orW (w w' : M U) : M U := .bind (testW w) fun b => if b = true then .ret (.bl true) else w'
def iteW {α : Type} (c : M Bool) (w w' : M α) : M α := .bind c fun b => if b = true then w else w'
def chainW (f g : U → U → Option U) (wa wb wc : M U) : M U := .bind wa fun a => .bind wb fun b => .bind (testW (.o (f a b))) fun k => if k = true then .bind wc fun c => .o (g b c) else .ret (.bl false)
def consA (wa : M U) (wr : M (List U)) : M (List U) := .bind wa fun a => .bind wr fun r => .ret (a :: r)
def nilA : M (List U) := .ret []
def tupW (wa : M (List U)) : M U := .bind wa fun us => .o (if us.length ≤ sizeLine then some (.tup us) else none)
def lstW (wa : M (List U)) : M U := .bind wa fun us => .o (if us.length ≤ sizeLine then some (.lst us) else none)
def noP : M (Option Int) := .ret none
def someP (w : M U) : M (Option Int) := .bind w fun u => .o ((intU u).map some)
def slW (wa : M U) (wl wh : M (Option Int)) : M U := .bind wa fun a => .bind wl fun l => .bind wh fun h => .o (slU a l h)
section
variable {F : Fr} {δ : Dl} {te ta tb tc : TE} {tt tu : TT} {wa wb wc : M U} {w w' : M U} {wt wu : M Bool}
theorem EvW.r (h : EvW F te δ w) : EvR F te δ w := fun os as st γ σ H a st' S q QQ k => h os as st γ σ H a st' S q QQ fun v H' as' g S' p => k v H' as' g S' (rd_of_im p)
theorem ev_var {i : Nat} {u : U} (h : δ[i]? = some (some (.im u))) : EvW F (tVar i) δ (.ret u) := fun os as st γ σ H a st' S q QQ k => by
  cases q
  obtain ⟨v, e, p⟩ := S.get h
  exact ⟨v, e, k v H as (Go.refl _ _) S p⟩
theorem rd_of_own {os : Os} {as : SA} {i : Nat} {s : Sh} {u : U} {v : V} {H : Hp} {A : List Addr} (nd : (flo os ++ fl as).Nodup) (nb : ∀ a, a ∈ flo os ∨ a ∈ fl as → ¬ F.B a) (m : (i, A) ∈ os) (hs : s = .lst .leaf ∨ s = .dct .leaf ∨ s = .obj (fun _ => .leaf) ∨ s = .leaf) (h : ownD F.G (rts as) (ban F os as) s u v H A) : rd F os as u v H := by
  have off : ∀ a ∈ A, ¬ ban F [] as a := fun a z q => q.elim (nb a (.inl (mem_flo m z))) fun q => q.elim (fun w => nomatch w) fun q => (List.nodup_append.mp nd).2.2 a (mem_flo m z) a q rfl
  rcases hs with rfl | rfl | rfl | rfl
  · cases u <;> first | exact h.elim | skip
    obtain ⟨a, vs, e1, e2, h1, q⟩ := own_lst.mp h
    exact ⟨a, vs, e1, off a (by rw [e2]; exact List.mem_cons_self), h1, q⟩
  · cases u <;> first | exact h.elim | skip
    · obtain ⟨a, vs, e1, e2, h1, l, q⟩ := own_dct.mp h
      exact ⟨a, vs, e1, off a (by rw [e2]; exact List.mem_cons_self), .inl h1, l, q⟩
    · obtain ⟨a, vs, e1, e2, h1, l, q⟩ := own_dcT.mp h
      exact ⟨a, vs, e1, off a (by rw [e2]; exact List.mem_cons_self), .inl h1, l, q⟩
    · obtain ⟨a, vs, e1, e2, h1, l, q⟩ := own_dcN.mp h
      exact ⟨a, vs, e1, off a (by rw [e2]; exact List.mem_cons_self), .inl h1, l, q⟩
  · cases u <;> first | exact h.elim | skip
    rename_i c ns us
    obtain ⟨a, dx, vs, A', e1, e2, h1, l, q⟩ := h
    exact ⟨a, dx, vs, e1, off a (by rw [e2]; exact List.mem_cons_self), h1, l, ((ownZ_leaf (f := fun n => (fun _ => Sh.leaf) (ns.getD n "")) fun _ => rfl).mp q).2⟩
  · exact rd_of_im h.2
theorem ev_own {i : Nat} {s : Sh} {u : U} (h : δ[i]? = some (some (.own s u))) (hs : s = .lst .leaf ∨ s = .dct .leaf ∨ s = .obj (fun _ => .leaf) ∨ s = .leaf) : EvR F (tVar i) δ (.ret u) := fun os as st γ σ H a st' S q QQ k => by
  cases q
  obtain ⟨v, e, A, m, p⟩ := S.get h
  exact ⟨v, e, k v H as (Go.refl _ _) S (rd_of_own S.nd S.nb m hs p)⟩
theorem ev_ownL {i : Nat} {u : U} (h : δ[i]? = some (some (.own (.lst .leaf) u))) : EvR F (tVar i) δ (.ret u) := ev_own h (.inl rfl)
theorem ev_c {v : V} {u : U} (h : ∀ os as H, im F.G (rts as) (ban F os as) u v H) : EvW F (tC v) δ (.ret u) := fun os as st γ σ H a st' S q QQ k => by
  cases q; exact k _ H as (Go.refl _ _) S (h os as H)
theorem ev_int {i : Int} : EvW F (tC (.int i)) δ (.ret (.int i)) := ev_c fun _ _ _ => rfl
theorem ev_bl {b : Bool} : EvW F (tC (.bl b)) δ (.ret (.bl b)) := ev_c fun _ _ _ => rfl
theorem ev_str {x : Str} : EvW F (tC (.str x)) δ (.ret (.str x)) := ev_c fun _ _ _ => rfl
theorem ev_non : EvW F (tC .non) δ (.ret .non) := ev_c fun _ _ _ => rfl
theorem ev_op {r : R2} {f : U → U → Option U} (h : OpOk F r f) (ha : EvR F ta δ wa) (hb : EvR F tb δ wb) : EvW F (tOp r ta tb) δ (op2 f wa wb) := fun os as st γ σ H c st' S q QQ k => by
  obtain ⟨a, st1, qa, q⟩ := M.bind_inv q
  obtain ⟨b, st2, qb, q⟩ := M.bind_inv q
  obtain ⟨e, rfl⟩ := M.o_inv q
  exact ha os as st γ σ H a st1 S qa _ fun x H1 as1 g1 S1 px => hb os as1 st1 γ σ H1 b _ S1 qb _ fun y H2 as2 g2 S2 py =>
    h os as2 H2 a b c x y S2.ok (rd_go g2 px) py e QQ fun v H3 e3 p3 => k v H3 as2 ((g1.trans g2).trans (Go.of_ex e3)) (S2.ex e3) p3
theorem ev_cb1 {r : List V → Hp → VK → Prop} {f : U → Option U} (h : Op1Ok F r f) (ha : EvR F ta δ wa) : EvW F (tCB r (tCons ta tNil)) δ (op1 f wa) := fun os as st γ σ H c st' S q QQ k => by
  obtain ⟨a, st1, qa, q⟩ := M.bind_inv q
  obtain ⟨e, rfl⟩ := M.o_inv q
  exact ha os as st γ σ H a _ S qa _ fun x H1 as1 g1 S1 px => h os as1 H1 a c x S1.ok px e QQ fun v H3 e3 p3 => k v H3 as1 (g1.trans (Go.of_ex e3)) (S1.ex e3) p3
theorem ev_isi {T : String} (ha : EvR F ta δ wa) : EvW F (tCB (rIsi F.G.K) (tCons ta (tCons (tC (.ty T)) tNil))) δ (op1 (isiU · T) wa) := fun os as st γ σ H c st' S q QQ k => by
  obtain ⟨a, st1, qa, q⟩ := M.bind_inv q
  obtain ⟨ec, rfl⟩ := M.o_inv q
  refine ha os as st γ σ H a _ S qa _ fun x H1 as1 g1 S1 px => ?_
  unfold isiU at ec
  dsimp only at ec
  cases e : tyU a with
  | none => rw [e] at ec; cases ec
  | some t =>
    rw [e] at ec
    by_cases hT : ["int", "bool", "str", "tuple", "list", "dict"].contains T = true
    · simp only [hT, if_true] at ec
      cases ec
      exact ⟨x, .ty T, _, _, _, rfl, .ty T, rd_ty e px, kit_ty (kit_is e hT), k _ H1 as1 g1 S1 rfl⟩
    · simp only [hT] at ec; cases ec
theorem isN_rd {os : Os} {as : SA} {H : Hp} {a : U} {x : V} (px : rd F os as a x H) : decide (x = .non) = isNU a := by
  cases a with
  | non => rw [show x = .non from px]; rfl
  | bl _ | int _ | str _ | top _ => rw [show x = _ from px]; simp [isNU]
  | tup _ | frl _ => obtain ⟨a, vs, e, _⟩ := px; rw [e]; simp [isNU]
  | lst _ | dct _ _ | dcT _ _ | dcN _ _ => obtain ⟨a, vs, e, _⟩ := px; rw [e]; simp [isNU]
  | obj _ _ _ => obtain ⟨a, dx, vs, e, _⟩ := px; rw [e]; simp [isNU]
  | loc _ => obtain ⟨a, _, e⟩ := px; rw [e]; simp [isNU]
theorem ev_notN (ha : EvR F ta δ wa) : EvW F (tOp (fun x y H Q => y = .non ∧ Q (.bl (!decide (x = .non))) H) ta (tC .non)) δ (.bind wa fun a => .ret (.bl (!isNU a))) := fun os as st γ σ H c st' S q QQ k => by
  obtain ⟨a, st1, qa, q⟩ := M.bind_inv q
  cases q
  exact ha os as st γ σ H a _ S qa _ fun x H1 as1 g1 S1 px => ⟨rfl, k _ H1 as1 g1 S1 (by show V.bl _ = V.bl _; rw [isN_rd px])⟩
theorem rd_bl {os : Os} {as : SA} {H : Hp} {u : U} {v : V} {b : Bool} (e : boolU u = some b) (h : rd F os as u v H) : v = .bl b := by
  cases u <;> simp [boolU] at e
  subst e; exact h
theorem et_test (ha : EvR F te δ wa) : EvT F (tTest te) δ (testW wa) := fun os as st γ σ H c st' S q QQ k => by
  obtain ⟨a, st1, qa, q⟩ := M.bind_inv q
  obtain ⟨e, rfl⟩ := M.o_inv q
  exact ha os as st γ σ H a _ S qa _ fun x H1 as1 g1 S1 px => ⟨c, rd_bl e px, k H1 as1 g1 S1⟩
theorem et_B (ha : EvR F te δ wa) : EvT F (tB te) δ (testW wa) := fun os as st γ σ H c st' S q QQ k => by
  obtain ⟨a, st1, qa, q⟩ := M.bind_inv q
  obtain ⟨e, rfl⟩ := M.o_inv q
  exact ha os as st γ σ H a _ S qa _ fun x H1 as1 g1 S1 px => ⟨c, rd_bl e px, k H1 as1 g1 S1⟩
theorem et_not (h : EvT F tt δ wt) : EvT F (tNot tt) δ (notT wt) := fun os as st γ σ H c st' S q QQ k => by
  obtain ⟨a, st1, qa, q⟩ := M.bind_inv q
  cases q
  exact h os as st γ σ H a _ S qa _ fun H1 as1 g1 S1 => k H1 as1 g1 S1
theorem et_and (h : EvT F tt δ wt) (h' : EvT F tu δ wu) : EvT F (tAnd tt tu) δ (andT wt wu) := fun os as st γ σ H c st' S q QQ k => by
  obtain ⟨a, st1, qa, q⟩ := M.bind_inv q
  refine h os as st γ σ H a _ S qa _ fun H1 as1 g1 S1 => ?_
  cases a with
  | true => exact h' os as1 st1 γ σ H1 c st' S1 q QQ fun H2 as2 g2 S2 => k H2 as2 (g1.trans g2) S2
  | false => cases q; exact k H1 as1 g1 S1
theorem et_or (h : EvT F tt δ wt) (h' : EvT F tu δ wu) : EvT F (tOr tt tu) δ (orT wt wu) := fun os as st γ σ H c st' S q QQ k => by
  obtain ⟨a, st1, qa, q⟩ := M.bind_inv q
  refine h os as st γ σ H a _ S qa _ fun H1 as1 g1 S1 => ?_
  cases a with
  | false => exact h' os as1 st1 γ σ H1 c st' S1 q QQ fun H2 as2 g2 S2 => k H2 as2 (g1.trans g2) S2
  | true => cases q; exact k H1 as1 g1 S1
theorem et_yes : EvT F tYes δ (.ret true) := fun os as st γ σ H c st' S q QQ k => by
  cases q; exact k H as (Go.refl _ _) S
theorem ev_and (h : EvR F ta δ wa) (h' : EvW F tb δ wb) : EvW F (tAndV ta tb) δ (andW wa wb) := fun os as st γ σ H c st' S q QQ k => by
  obtain ⟨b, st1, qa, q⟩ := M.bind_inv q
  obtain ⟨a, st2, qa, q2⟩ := M.bind_inv qa
  obtain ⟨e, rfl⟩ := M.o_inv q2
  refine h os as st γ σ H a _ S qa _ fun x H1 as1 g1 S1 px => ⟨b, rd_bl e px, ?_⟩
  cases b with
  | true => exact h' os as1 _ γ σ H1 c st' S1 q _ fun v H2 as2 g2 S2 p => k v H2 as2 (g1.trans g2) S2 p
  | false => cases q; exact k _ H1 as1 g1 S1 rfl
theorem ev_or (h : EvR F ta δ wa) (h' : EvW F tb δ wb) : EvW F (tOrV ta tb) δ (orW wa wb) := fun os as st γ σ H c st' S q QQ k => by
  obtain ⟨b, st1, qa, q⟩ := M.bind_inv q
  obtain ⟨a, st2, qa, q2⟩ := M.bind_inv qa
  obtain ⟨e, rfl⟩ := M.o_inv q2
  refine h os as st γ σ H a _ S qa _ fun x H1 as1 g1 S1 px => ⟨b, rd_bl e px, ?_⟩
  cases b with
  | false => exact h' os as1 _ γ σ H1 c st' S1 q _ fun v H2 as2 g2 S2 p => k v H2 as2 (g1.trans g2) S2 p
  | true => cases q; exact k _ H1 as1 g1 S1 rfl
theorem ev_not (h : EvR F ta δ wa) : EvW F (tNotV ta) δ (op1 notU wa) := fun os as st γ σ H c st' S q QQ k => by
  obtain ⟨a, st1, qa, q⟩ := M.bind_inv q
  obtain ⟨e, rfl⟩ := M.o_inv q
  refine h os as st γ σ H a _ S qa _ fun x H1 as1 g1 S1 px => ?_
  cases a <;> simp [notU] at e
  subst e
  exact ⟨_, px, k _ H1 as1 g1 S1 rfl⟩
theorem evp_if {P : PP U} {wa wb : M U} (h : EvT F tt δ wt) (ha : EvP F P ta δ wa) (hb : EvP F P tb δ wb) (tr : ∀ os as H H0 u v H', (∀ a, H' a = none → H a = none) → P os as H' u v H0 → P os as H u v H0) : EvP F P (tIf tt ta tb) δ (iteW wt wa wb) := fun os as st γ σ H c st' S q QQ k => by
  obtain ⟨b, st1, qa, q⟩ := M.bind_inv q
  refine h os as st γ σ H b _ S qa _ fun H1 as1 g1 S1 => ?_
  cases b with
  | true => exact ha os as1 _ γ σ H1 c st' S1 q _ fun v H2 as2 g2 S2 p => k v H2 as2 (g1.trans g2) S2 (tr _ _ _ _ _ _ _ (fun a => g1.fresh) p)
  | false => exact hb os as1 _ γ σ H1 c st' S1 q _ fun v H2 as2 g2 S2 p => k v H2 as2 (g1.trans g2) S2 (tr _ _ _ _ _ _ _ (fun a => g1.fresh) p)
theorem ev_if (h : EvT F tt δ wt) (ha : EvW F ta δ wa) (hb : EvW F tb δ wb) : EvW F (tIf tt ta tb) δ (iteW wt wa wb) := evp_if h ha hb fun _ _ _ _ _ _ _ _ p => p
theorem ev_chain {r r' : R2} {f g : U → U → Option U} (hf : OpOk F r f) (hg : OpOk F r' g) (ha : EvR F ta δ wa) (hb : EvR F tb δ wb) (hc : EvR F tc δ wc) : EvW F (tChain r r' ta tb tc) δ (chainW f g wa wb wc) := fun os as st γ σ H c st' S q QQ k => by
  obtain ⟨a, st1, qa, q⟩ := M.bind_inv q
  obtain ⟨b, st2, qb, q⟩ := M.bind_inv q
  obtain ⟨z, st3, qz, q⟩ := M.bind_inv q
  obtain ⟨y, st4, qy, qz2⟩ := M.bind_inv (show M.bind (M.o (f a b)) (fun a => M.o (boolU a)) st2 = _ from qz)
  obtain ⟨ey, rfl⟩ := M.o_inv qy
  obtain ⟨ez, rfl⟩ := M.o_inv qz2
  refine ha os as st γ σ H a st1 S qa _ fun x H1 as1 g1 S1 px => hb os as1 st1 γ σ H1 b _ S1 qb _ fun y' H2 as2 g2 S2 py => ?_
  refine hf os as2 H2 a b y x y' S2.ok (rd_go g2 px) py ey _ fun v H3 e3 p3 => ⟨z, rd_bl (F := F) (os := os) (as := as2) (H := H3) ez (rd_of_im p3), ?_⟩
  have g3 := (g1.trans g2).trans (Go.of_ex (as := as2) e3)
  cases z with
  | false => cases q; exact k _ H3 as2 g3 (S2.ex e3) rfl
  | true =>
    obtain ⟨c', st5, qc, q⟩ := M.bind_inv q
    obtain ⟨ec, rfl⟩ := M.o_inv q
    refine hc os as2 _ γ σ H3 c' _ (S2.ex e3) qc _ fun u H4 as4 g4 S4 pu => ?_
    exact hg os as4 H4 b c' c y' u S4.ok (rd_go g4 (rd_go (Go.of_ex e3) py)) pu ec QQ fun v H5 e5 p5 => k v H5 as4 ((g3.trans g4).trans (Go.of_ex e5)) (S4.ex e5) p5
theorem ea_nil : EvAW F tNil δ nilA := fun os as st γ σ H us st' S q QQ k => by cases q; exact k [] H as (Go.refl _ _) S rfl
theorem ea_cons {tr : TA} {wr : M (List U)} (ha : EvW F ta δ wa) (hr : EvAW F tr δ wr) : EvAW F (tCons ta tr) δ (consA wa wr) := fun os as st γ σ H us st' S q QQ k => by
  obtain ⟨a, st1, qa, q⟩ := M.bind_inv q
  obtain ⟨r, st2, qr, q⟩ := M.bind_inv q
  cases q
  exact ha os as st γ σ H a _ S qa _ fun x H1 as1 g1 S1 px => hr os as1 st1 γ σ H1 r _ S1 qr _ fun vs H2 as2 g2 S2 pv => k (x :: vs) H2 as2 (g1.trans g2) S2 ⟨x, vs, rfl, im_go g2 px, pv⟩
theorem ev_tup {t : TA} {wl : M (List U)} (h : EvAW F t δ wl) : EvW F (tTup t) δ (tupW wl) := fun os as st γ σ H c st' S q QQ k => by
  obtain ⟨us, st1, qa, q⟩ := M.bind_inv q
  obtain ⟨e, rfl⟩ := M.o_inv q
  by_cases hl : us.length ≤ sizeLine
  · rw [if_pos hl] at e
    cases e
    exact h os as st γ σ H us _ S qa _ fun vs H1 as1 g1 S1 pv => ⟨by rw [imAll_len pv]; exact hl, fun p hp => k _ _ as1 (g1.trans (Go.of_ex (Ex.new hp))) (S1.ex (Ex.new hp)) ⟨p, vs, rfl, upd_same, imAll_st (RB.of_ex (Ex.new hp)) _ _ pv⟩⟩
  · rw [if_neg hl] at e; cases e
theorem flo_cons {os : Os} {p : Nat × List Addr} : flo (p :: os) = p.2 ++ flo os := rfl
theorem ban_cons {os : Os} {as : SA} {k : Nat} {A : List Addr} {a : Addr} : ban F ((k, A) :: os) as a ↔ a ∈ A ∨ ban F os as a := by
  unfold ban
  rw [flo_cons, List.mem_append]
  constructor
  · rintro (h | (h | h) | h)
    · exact .inr (.inl h)
    · exact .inl h
    · exact .inr (.inr (.inl h))
    · exact .inr (.inr (.inr h))
  · rintro (h | h | h | h)
    · exact .inr (.inl (.inl h))
    · exact .inl h
    · exact .inr (.inl (.inr h))
    · exact .inr (.inr h)
theorem sub_cons {os : Os} {as : SA} {k : Nat} {A : List Addr} {H : Hp} (hA : ∀ a ∈ A, H a = none) : ∀ a, H a ≠ none → ban F ((k, A) :: os) as a → ban F os as a := fun a n b => (ban_cons.mp b).elim (fun z => absurd (hA a z) n) id
theorem SDo.grow {os : Os} {as : SA} {st : Sto} {γ : List (U × V)} {H H' : Hp} {σ : L2.St} {k : Nat} {p : Addr} (S : SDo F os as st γ H σ δ) (hk : k ∉ os.map (·.1)) (hp : H p = none) (e : Ex H H') (hp' : H' p ≠ none) : SDo F ((k, [p]) :: os) as st γ H' σ δ := by
  have hA : ∀ a ∈ [p], H a = none := fun a m => by rw [List.mem_singleton] at m; rw [m]; exact hp
  have sb := sub_cons (F := F) (os := os) (as := as) (k := k) hA
  have up : ∀ u v, im F.G (rts as) (ban F os as) u v H → im F.G (rts as) (ban F ((k, [p]) :: os) as) u v H' := fun u v h => im_st (RB.of_ex e) _ _ (im_sub sb _ _ h)
  have tp : ∀ a xs, H a = some (.tup xs) → H' a = some (.tup xs) := fun a xs h => e _ _ h
  have kp : ∀ a, H a ≠ none → H' a = H a := fun a n => by
    cases q : H a with
    | none => exact absurd q n
    | some o => exact e a o q
  refine ⟨fun q m => up _ _ (S.gh q m), S.rel.trans (Go.of_ex e), fun a b => ?_, ?_, List.nodup_cons.mpr ⟨hk, S.ix⟩, fun a m => ?_, fun a z => ?_, StOk.mono up tp (fun a m => kp a (S.ok a (.inr (.inr m)))) S.sto, S.len, fun i x e1 => ?_⟩
  · rcases ban_cons.mp b with z | z
    · rw [List.mem_singleton] at z; rw [z]; exact hp'
    · rw [kp a (S.ok a z)]; exact S.ok a z
  · rw [flo_cons]
    show ([p] ++ flo os ++ fl as).Nodup
    rw [List.append_assoc]
    refine List.nodup_append.mpr ⟨by simp, S.nd, fun a m b q e => ?_⟩
    rw [List.mem_singleton] at m
    subst m e
    exact S.ok _ ((List.mem_append.mp q).elim (fun z => .inr (.inl z)) fun z => .inr (.inr z)) hp
  · rcases List.mem_append.mp (show a ∈ [p] ++ flo os from m) with z | z
    · rw [List.mem_singleton] at z; rw [z]; exact S.rel.fresh hp
    · exact S.new a z
  · rcases z with z | z
    · rcases List.mem_append.mp (show a ∈ [p] ++ flo os from z) with z | z
      · rw [List.mem_singleton] at z; rw [z]; exact fun b => S.ok p (.inl b) hp
      · exact S.nb a (.inl z)
    · exact S.nb a (.inr z)
  · obtain ⟨v, h1, h2⟩ := S.at_ i x e1
    refine ⟨v, h1, ?_⟩
    match x, h2 with
    | .im u, h2 => exact up _ _ h2
    | .raw _, h2 => exact h2
    | .own sh u, ⟨A, m, h2⟩ => exact ⟨A, List.mem_cons_of_mem _ m, own_mono up tp _ _ _ _ (fun a z => kp a (S.ok a (.inr (.inl (mem_flo m z))))) h2⟩
theorem en_lst {t : TA} {wl : M (List U)} (h : EvAW F t δ wl) : EvN F (.lst .leaf) (tLst t) δ (lstW wl) := fun os as st γ σ H c st' S q QQ k => by
  obtain ⟨us, st1, qa, q⟩ := M.bind_inv q
  obtain ⟨e, rfl⟩ := M.o_inv q
  by_cases hl : us.length ≤ sizeLine
  · rw [if_pos hl] at e
    cases e
    refine h os as st γ σ H us _ S qa _ fun vs H1 as1 g1 S1 pv => ⟨by rw [imAll_len pv]; exact hl, fun p hp => k _ _ as1 [p] (g1.trans (Go.of_ex (Ex.new hp))) (fun k hk => S1.grow hk hp (Ex.new hp) (by rw [upd_same]; exact fun z => nomatch z)) ?_ fun a m => ?_⟩
    · refine own_lst.mpr ⟨p, vs, rfl, rfl, upd_same, imAll_st (RB.of_ex (Ex.new hp)) _ _ (imAll_sub (sub_cons fun a m => ?_) _ _ pv)⟩
      rw [List.mem_singleton] at m; rw [m]; exact hp
    · rw [List.mem_singleton] at m; rw [m]; exact g1.fresh hp
  · rw [if_neg hl] at e; cases e
theorem own_im {B : Bn} {G : Cxt} {rs : List Addr} {H : Hp} : ∀ (s : Sh) (u : U) (v : V) (A : List Addr), (∀ a ∈ A, ¬ B a) → ownD G rs B s u v H A → im G rs B u v H := by
  have key : ∀ (P : Nat → U → V → Hp → List Addr → Prop) (us : List U) (n : Nat) (vs : List V) (A : List Addr), (∀ n u v A1, (∀ a ∈ A1, a ∈ A) → P n u v H A1 → im G rs B u v H) → ownZ P n us vs H A → imAll G rs B us vs H := by
    intro P us
    induction us with
    | nil => intro n vs A _ h; exact h.1
    | cons u us ih =>
      rintro n vs A f ⟨v, r, A1, A2, e1, e2, h1, h2⟩
      exact ⟨v, r, e1, f n u v A1 (fun a m => by rw [e2]; exact List.mem_append_left _ m) h1, ih (n + 1) r A2 (fun n u v A3 s p => f n u v A3 (fun a m => by rw [e2]; exact List.mem_append_right _ (s a m)) p) h2⟩
  intro s
  induction s with
  | leaf => intro u v A _ h; exact h.2
  | lst s ih =>
    intro u v A nb h
    cases u <;> first | exact h.elim | skip
    obtain ⟨a, vs, A', e1, e2, h1, q⟩ := h
    exact ⟨a, vs, e1, nb a (by rw [e2]; exact List.mem_cons_self), h1, key _ _ _ _ _ (fun n u v A1 m p => ih u v A1 (fun a z => nb a (by rw [e2]; exact List.mem_cons_of_mem _ (m a z))) p) q⟩
  | dct s ih =>
    intro u v A nb h
    cases u <;> first | exact h.elim | skip
    case' dcN =>
      obtain ⟨a, vs, A', e1, e2, h1, l, q1, q⟩ := h
      exact ⟨a, vs, e1, nb a (by rw [e2]; exact List.mem_cons_self), .inl h1, l, q1, key _ _ _ _ _ (fun n u v A1 m p => ih u v A1 (fun a z => nb a (by rw [e2]; exact List.mem_cons_of_mem _ (m a z))) p) q⟩
    all_goals
      obtain ⟨a, vs, A', e1, e2, h1, l, q⟩ := h
      exact ⟨a, vs, e1, nb a (by rw [e2]; exact List.mem_cons_self), .inl h1, l, key _ _ _ _ _ (fun n u v A1 m p => ih u v A1 (fun a z => nb a (by rw [e2]; exact List.mem_cons_of_mem _ (m a z))) p) q⟩
  | tup f ih =>
    intro u v A nb h
    cases u <;> first | exact h.elim | skip
    obtain ⟨a, vs, e1, h1, q⟩ := h
    exact ⟨a, vs, e1, h1, key _ _ _ _ _ (fun n u v A1 m p => ih n u v A1 (fun a z => nb a (m a z)) p) q⟩
  | obj f ih =>
    intro u v A nb h
    cases u <;> first | exact h.elim | skip
    obtain ⟨a, dx, vs, A', e1, e2, h1, l, q⟩ := h
    exact ⟨a, dx, vs, e1, nb a (by rw [e2]; exact List.mem_cons_self), h1, l, key _ _ _ _ _ (fun n u v A1 m p => ih _ u v A1 (fun a z => nb a (by rw [e2]; exact List.mem_cons_of_mem _ (m a z))) p) q⟩
theorem nodup_fresh (l : List Nat) (n : Nat) : ∃ k, k ∉ l ∧ n ≤ k := by
  have key : ∀ l : List Nat, ∃ m, ∀ x ∈ l, x < m := by
    intro l
    induction l with
    | nil => exact ⟨0, fun _ h => nomatch h⟩
    | cons a l ih =>
      obtain ⟨m, h⟩ := ih
      refine ⟨max m (a + 1), fun x hx => ?_⟩
      rcases List.mem_cons.mp hx with rfl | hx
      · omega
      · have := h x hx; omega
  obtain ⟨m, h⟩ := key l
  refine ⟨max m n, fun z => ?_, by omega⟩
  have := h _ z
  omega
theorem SDo.ungrow {os : Os} {as : SA} {st : Sto} {γ : List (U × V)} {H : Hp} {σ : L2.St} {k : Nat} {A : List Addr} (S : SDo F ((k, A) :: os) as st γ H σ δ) (hk : δ.length ≤ k) : SDo F os as st γ H σ δ := by
  have sb : ∀ a, H a ≠ none → ban F os as a → ban F ((k, A) :: os) as a := fun a _ b => ban_cons.mpr (.inr b)
  have up : ∀ u v, im F.G (rts as) (ban F ((k, A) :: os) as) u v H → im F.G (rts as) (ban F os as) u v H := fun u v h => im_sub sb _ _ h
  refine ⟨fun q m => up _ _ (S.gh q m), S.rel, fun a b => S.ok a (ban_cons.mpr (.inr b)), (List.nodup_append.mp (show (A ++ (flo os ++ fl as)).Nodup by rw [← List.append_assoc]; exact S.nd)).2.1, (List.nodup_cons.mp S.ix).2, fun a m => S.new a (List.mem_append_right A m), fun a z => S.nb a (z.imp (fun m => List.mem_append_right A m) id), StOk.mono up (fun _ _ h => h) (fun _ _ => rfl) S.sto, S.len, fun i x e1 => ?_⟩
  obtain ⟨v, h1, h2⟩ := S.at_ i x e1
  refine ⟨v, h1, ?_⟩
  match x, h2 with
  | .im u, h2 => exact up _ _ h2
  | .raw _, h2 => exact h2
  | .own sh u, ⟨A', m, h2⟩ =>
    refine ⟨A', ?_, own_mono up (fun _ _ h => h) _ _ _ _ (fun _ _ => rfl) h2⟩
    rcases List.mem_cons.mp m with e | m
    · have := getElem?_lt e1
      have : i = k := (Prod.mk.inj e).1
      omega
    · exact m
theorem EvN.ew {s : Sh} (h : EvN F s te δ w) : EvW F te δ w := fun os as st γ σ H a st' S q QQ k => h os as st γ σ H a st' S q QQ fun v H' as' A g S' p n => by
  obtain ⟨j, hj, hl⟩ := nodup_fresh (os.map (·.1)) δ.length
  have S1 := S' j hj
  have nb : ∀ a ∈ A, ¬ ban F os as' a := fun a m b => by
    rcases b with b | b | b
    · exact S1.nb a (.inl (List.mem_append_left _ m)) b
    · exact (List.nodup_append.mp (show (A ++ (flo os ++ fl as')).Nodup by rw [← List.append_assoc]; exact S1.nd)).2.2 a m a (List.mem_append_left _ b) rfl
    · exact (List.nodup_append.mp (show (A ++ (flo os ++ fl as')).Nodup by rw [← List.append_assoc]; exact S1.nd)).2.2 a m a (List.mem_append_right _ b) rfl
  exact k v H' as' g (S1.ungrow hl) (own_im s _ _ A nb (own_mono (fun u v h => im_sub (fun a _ b => ban_cons.mpr (.inr b)) u v h) (fun _ _ h => h) _ _ _ _ (fun _ _ => rfl) p))
theorem eo_none : EvO F tNoPart δ noP := fun os as st γ σ H c st' S q QQ k => by cases q; exact k H as (Go.refl _ _) S
theorem eo_some (ha : EvR F te δ wa) : EvO F (tPart te) δ (someP wa) := fun os as st γ σ H c st' S q QQ k => by
  obtain ⟨a, st1, qa, q⟩ := M.bind_inv q
  obtain ⟨e, rfl⟩ := M.o_inv q
  refine ha os as st γ σ H a _ S qa _ fun x H1 as1 g1 S1 px => ?_
  cases a <;> simp [intU] at e
  subst e
  exact ⟨_, px, k H1 as1 g1 S1⟩
theorem cutV_im {G : Cxt} {rs : List Addr} {B : Bn} {H : Hp} {us : List U} {vs : List V} {lo hi : Option Int} (h : imAll G rs B us vs H) : imAll G rs B (cut us lo hi) (cutV vs lo hi) H := by
  unfold EL.cut cutV
  rw [imAll_len h]
  exact imAll_take _ (imAll_drop _ h)
theorem ev_sl {tl th : TO} {wl wh : M (Option Int)} (ha : EvR F te δ wa) (hl : EvO F tl δ wl) (hh : EvO F th δ wh) : EvW F (tSl (rSlU F.G.K) te tl th) δ (slW wa wl wh) := fun os as st γ σ H c st' S q QQ k => by
  obtain ⟨a, st1, qa, q⟩ := M.bind_inv q
  obtain ⟨lo, st2, ql, q⟩ := M.bind_inv q
  obtain ⟨hi, st3, qh, q⟩ := M.bind_inv q
  obtain ⟨e, rfl⟩ := M.o_inv q
  refine ha os as st γ σ H a _ S qa _ fun x H1 as1 g1 S1 px => hl os as1 st1 γ σ H1 lo _ S1 ql _ fun H2 as2 g2 S2 => hh os as2 st2 γ σ H2 hi _ S2 qh _ fun H3 as3 g3 S3 => ?_
  have px := rd_go g3 (rd_go g2 px)
  have g := (g1.trans g2).trans g3
  cases a <;> simp only [slU] at e <;> first | cases e | skip
  · obtain ⟨a, vs, e, s, pv⟩ := px
    refine .inr ⟨a, vs, e, EL.sqT_of s, fun z => ?_, fun _ p hp => k _ _ as3 (g.trans (Go.of_ex (Ex.new hp))) (S3.ex (Ex.new hp)) ⟨p, _, rfl, upd_same, imAll_st (RB.of_ex (Ex.new hp)) _ _ (cutV_im pv)⟩⟩
    refine k _ H3 as3 g S3 ⟨a, vs, rfl, s, ?_⟩
    have := cutV_im (lo := lo) (hi := hi) pv
    unfold cutV at this
    rw [z.1, z.2, List.drop_zero, Nat.sub_zero, List.take_length] at this
    exact this
  · obtain ⟨a, vs, e, nb, s, pv⟩ := px
    exact .inl ⟨a, vs, e, .inl (.inl s), fun p hp => k _ _ as3 (g.trans (Go.of_ex (Ex.new hp))) (S3.ex (Ex.new hp)) ⟨p, _, rfl, S3.notban hp, upd_same, imAll_st (RB.of_ex (Ex.new hp)) _ _ (cutV_im pv)⟩⟩
  · obtain ⟨a, vs, e, s, pv⟩ := px
    exact .inl ⟨a, vs, e, s.sq, fun p hp => k _ _ as3 (g.trans (Go.of_ex (Ex.new hp))) (S3.ex (Ex.new hp)) ⟨p, _, rfl, S3.notban hp, upd_same, imAll_st (RB.of_ex (Ex.new hp)) _ _ (cutV_im pv)⟩⟩
end
end UX

set_option Elab.async false
set_option linter.all false
set_option maxRecDepth 100000
set_option maxHeartbeats 4000000
set_option autoImplicit false
namespace UX
open PySem PySem.Spec PyProof.Rows L2
open EL (Ex RB BOk Bn TK rAddU rMulU rSlU rEqU rNeU rLtU rLenQ rTupQ rListQ rReprD cut)
section
variable {F : Fr} {os : Os} {as as' : SA} {st : Sto} {γ : List (U × V)} {H H' : Hp} {σ : L2.St} {δ : Dl} {v : V} {u : U} {i : Nat}
theorem mem_filt {os : Os} {p : Nat × List Addr} (h : p ∈ os.filter fun q => decide (q.1 ≠ i)) : p ∈ os ∧ p.1 ≠ i := by
  have := List.mem_filter.mp h
  exact ⟨this.1, by simpa using this.2⟩
theorem flo_filt {a : Addr} (h : a ∈ flo (os.filter fun q => decide (q.1 ≠ i))) : a ∈ flo os := by
  obtain ⟨A, m, h⟩ := List.mem_flatten.mp h
  obtain ⟨p, mp, rfl⟩ := List.mem_map.mp m
  exact mem_flo (i := p.1) (A := p.2) (mem_filt mp).1 h
theorem sub_flat {α : Type} {l l' : List (List α)} (h : l'.Sublist l) : l'.flatten.Sublist l.flatten := by
  induction h with
  | slnil => exact List.Sublist.slnil
  | @cons l1 l2 a _ ih => rw [List.flatten_cons]; exact ih.trans (List.sublist_append_right _ _)
  | @cons_cons l1 l2 a _ ih => rw [List.flatten_cons, List.flatten_cons]; exact List.Sublist.append (List.Sublist.refl _) ih
theorem SDo.drop (s : SDo F os as st γ H σ δ) (i : Nat) : SDo F (os.filter fun q => decide (q.1 ≠ i)) as st γ H σ (δ.set i none) := by
  have sb : ∀ a, H a ≠ none → ban F (os.filter fun q => decide (q.1 ≠ i)) as a → ban F os as a := fun a _ b => b.elim .inl fun b => b.elim (fun z => .inr (.inl (flo_filt z))) fun z => .inr (.inr z)
  have sl : (flo (os.filter fun q => decide (q.1 ≠ i))).Sublist (flo os) := sub_flat ((List.filter_sublist (l := os)).map _)
  refine ⟨fun p m => im_sub sb _ _ (s.gh p m), s.rel, fun a b => s.ok a (b.elim .inl fun b => b.elim (fun z => .inr (.inl (flo_filt z))) fun z => .inr (.inr z)), (List.Sublist.append sl (List.Sublist.refl _)).nodup s.nd, ((List.filter_sublist (l := os)).map _).nodup s.ix, fun a m => s.new a (flo_filt m), fun a z => s.nb a (z.imp flo_filt id),
    StOk.mono (fun _ _ h => im_sub sb _ _ h) (fun _ _ h => h) (fun _ _ => rfl) s.sto, by rw [List.length_set]; exact s.len, fun j x e => ?_⟩
  by_cases hj : i = j
  · subst hj
    have hl : i < δ.length := by have := getElem?_lt e; rwa [List.length_set] at this
    rw [List.getElem?_set_self hl] at e; cases e
  · rw [List.getElem?_set_ne hj] at e
    obtain ⟨w, h1, h2⟩ := s.at_ j x e
    refine ⟨w, h1, ?_⟩
    match x, h2 with
    | .im u, h2 => exact im_sub sb _ _ h2
    | .raw _, h2 => exact h2
    | .own sh u, ⟨A, m, h2⟩ => exact ⟨A, List.mem_filter.mpr ⟨m, by simpa using fun z => hj z.symm⟩, own_mono (fun _ _ h => im_sub sb _ _ h) (fun _ _ h => h) _ _ _ _ (fun _ _ => rfl) h2⟩
theorem SDo.own {k : Nat} {A : List Addr} {sh : Sh} (S : SDo F ((k, A) :: os) as st γ H σ δ) (hk : δ.length ≤ k) (h : ownD F.G (rts as) (ban F ((0, A) :: os) as) sh u v H A) :
    SDo F ((i, A) :: os.filter fun q => decide (q.1 ≠ i)) as st γ H (σ.set i (some v)) (δ.set i (some (.own sh u))) := by
  have fs : (List.filter (fun q => decide (q.1 ≠ i)) os).Sublist os := List.filter_sublist
  have sl : (flo (os.filter fun q => decide (q.1 ≠ i))).Sublist (flo os) := sub_flat (fs.map _)
  have bs : ∀ a, ban F ((i, A) :: os.filter fun q => decide (q.1 ≠ i)) as a → ban F ((k, A) :: os) as a := fun a b => ban_cons.mpr ((ban_cons.mp b).imp id fun b => b.elim .inl fun b => b.elim (fun z => .inr (.inl (flo_filt z))) fun z => .inr (.inr z))
  have up : ∀ u v, im F.G (rts as) (ban F ((k, A) :: os) as) u v H → im F.G (rts as) (ban F ((i, A) :: os.filter fun q => decide (q.1 ≠ i)) as) u v H := fun u v h => im_sub (fun a _ b => bs a b) _ _ h
  have nd : (A ++ (flo os ++ fl as)).Nodup := by rw [← List.append_assoc]; exact S.nd
  refine ⟨fun q m => up _ _ (S.gh q m), S.rel, fun a b => S.ok a (bs a b), ?_, List.nodup_cons.mpr ⟨fun m => ?_, (fs.map _).nodup (List.nodup_cons.mp S.ix).2⟩, fun a m => ?_, fun a z => ?_, StOk.mono up (fun _ _ h => h) (fun _ _ => rfl) S.sto, by rw [List.length_set, List.length_set, S.len], fun j x e => ?_⟩
  · show (A ++ flo _ ++ fl as).Nodup
    rw [List.append_assoc]
    exact (List.Sublist.append (List.Sublist.refl _) (List.Sublist.append sl (List.Sublist.refl _))).nodup nd
  · obtain ⟨p, mp, e⟩ := List.mem_map.mp m
    exact (mem_filt mp).2 e
  · rcases List.mem_append.mp (show a ∈ A ++ flo _ from m) with z | z
    · exact S.new a (List.mem_append_left _ z)
    · exact S.new a (List.mem_append_right A (flo_filt z))
  · refine S.nb a (z.imp (fun z => ?_) id)
    rcases List.mem_append.mp (show a ∈ A ++ flo _ from z) with z | z
    · exact List.mem_append_left _ z
    · exact List.mem_append_right A (flo_filt z)
  · by_cases hj : i = j
    · subst hj
      have hl : i < δ.length := by have := getElem?_lt e; rwa [List.length_set] at this
      rw [List.getElem?_set_self hl] at e
      cases e
      exact ⟨v, List.getElem?_set_self (by rw [S.len]; exact hl), A, List.mem_cons_self, own_mono up (fun _ _ h => h) _ _ _ _ (fun _ _ => rfl) h⟩
    · rw [List.getElem?_set_ne hj] at e
      obtain ⟨w, h1, h2⟩ := S.at_ j x e
      refine ⟨w, by rw [List.getElem?_set_ne hj]; exact h1, ?_⟩
      match x, h2 with
      | .im u, h2 => exact up _ _ h2
      | .raw _, h2 => exact h2
      | .own sh u, ⟨A', m, h2⟩ =>
        refine ⟨A', List.mem_cons_of_mem _ (List.mem_filter.mpr ⟨?_, by simpa using fun z => hj z.symm⟩), own_mono up (fun _ _ h => h) _ _ _ _ (fun _ _ => rfl) h2⟩
        rcases List.mem_cons.mp m with z | m
        · have := getElem?_lt e
          have : j = k := (Prod.mk.inj z).1
          omega
        · exact m
end
end UX

set_option Elab.async false
set_option linter.all false
set_option maxRecDepth 100000
set_option maxHeartbeats 4000000
set_option autoImplicit false
namespace UX
open PySem PySem.Spec PyProof.Rows L2
open EL (Ex RB BOk Bn TK rAddU rMulU rSlU rEqU rNeU rLtU rLenQ rTupQ rListQ rReprD cut)
def seqO {S S' L : Type} (w : M (Out S L)) (k : S → M (Out S' L)) : M (Out S' L) := .bind w fun o => match o with
  | .nx s => k s
  | .rt u => .ret (.rt u)
  | .bk l => .ret (.bk l)
  | .ct l => .ret (.ct l)
def rtO {S L : Type} (w : M U) : M (Out S L) := .bind w fun u => .ret (.rt u)
def nxO {S L : Type} (s : S) : M (Out S L) := .ret (.nx s)
def fnM (w : M (Out Unit Unit)) : M U := .bind w fun o => match o with
  | .rt u => .ret u
  | .nx _ => .ret .non
  | _ => .fail
def un2 {α : Type} (u : U) (k : U → U → M α) : M α := match u with
  | .tup [a, b] => k a b
  | _ => .fail
def un3 {α : Type} (u : U) (k : U → U → U → M α) : M α := match u with
  | .tup [a, b, c] => k a b c
  | _ => .fail
def un6 {α : Type} (u : U) (k : U → U → U → U → U → U → M α) : M α := match u with
  | .tup [a, b, c, d, e, f] => k a b c d e f
  | _ => .fail
def forO {S L : Type} (f : U → S → M (Out S S)) : List U → S → M (Out S L)
  | [], s => nxO s
  | x :: xs, s => .bind (f x s) fun o => match o with
    | .nx s' => forO f xs s'
    | .ct s' => forO f xs s'
    | .bk s' => nxO s'
    | .rt u => .ret (.rt u)
section
variable {S S' L : Type} {c : S → M Bool} {b : S → M (Out S S)}
theorem M.bind_of {α β : Type} {w : M α} {f : α → M β} {st st1 : Sto} {a : α} (h : w st = some (.ok a, st1)) : M.bind w f st = f a st1 := by
  unfold M.bind; rw [h]
end
def EvF (F : Fr) : TE → Dl → M U → Prop := EvP F fun os as _ u v H => im F.G (rts as) (ban F [] as) u v H
def EvAF (F : Fr) : TA → Dl → M (List U) → Prop := EvA F fun os as us vs H => imAll F.G (rts as) (ban F [] as) us vs H
section
variable {F : Fr} {δ : Dl} {te ta : TE} {w wa : M U}
theorem im_nil {os : Os} {as : SA} {u : U} {v : V} {H : Hp} (h : im F.G (rts as) (ban F os as) u v H) : im F.G (rts as) (ban F [] as) u v H := im_sub (fun a _ b => b.elim .inl fun b => b.elim (fun z => nomatch z) fun z => .inr (.inr z)) _ _ h
theorem im_go0 {as as' : SA} {H H' : Hp} (g : Go as as' H H') {u : U} {v : V} (h : im F.G (rts as) (ban F [] as) u v H) : im F.G (rts as') (ban F [] as') u v H' := im_go g h
theorem EvW.f (h : EvW F te δ w) : EvF F te δ w := fun os as st γ σ H a st' S q QQ k => h os as st γ σ H a st' S q QQ fun v H' as' g S' p => k v H' as' g S' (im_nil p)
theorem ef_own {i : Nat} {s : Sh} {u : U} (h : δ[i]? = some (some (.own s u))) : EvF F (tVar i) δ (.ret u) := fun os as st γ σ H a st' S q QQ k => by
  cases q
  obtain ⟨v, e, A, m, p⟩ := S.get h
  refine ⟨v, e, k v H as (Go.refl _ _) S (own_im s _ _ A (fun a z b => ?_) (own_mono (fun u v h => im_nil h) (fun _ _ h => h) _ _ _ _ (fun _ _ => rfl) p))⟩
  rcases b with b | b | b
  · exact S.nb a (.inl (mem_flo m z)) b
  · cases b
  · exact (List.nodup_append.mp S.nd).2.2 a (mem_flo m z) a b rfl
theorem eaf_nil : EvAF F tNil δ nilA := fun os as st γ σ H us st' S q QQ k => by cases q; exact k [] H as (Go.refl _ _) S rfl
theorem eaf_cons {tr : TA} {wr : M (List U)} (ha : EvF F ta δ wa) (hr : EvAF F tr δ wr) : EvAF F (tCons ta tr) δ (consA wa wr) := fun os as st γ σ H us st' S q QQ k => by
  obtain ⟨a, st1, qa, q⟩ := M.bind_inv q
  obtain ⟨r, st2, qr, q⟩ := M.bind_inv q
  cases q
  exact ha os as st γ σ H a _ S qa _ fun x H1 as1 g1 S1 px => hr os as1 st1 γ σ H1 r _ S1 qr _ fun vs H2 as2 g2 S2 pv => k (x :: vs) H2 as2 (g1.trans g2) S2 ⟨x, vs, rfl, im_go0 g2 px, pv⟩
theorem ef_tup {t : TA} {wl : M (List U)} (h : EvAF F t δ wl) : EvF F (tTup t) δ (tupW wl) := fun os as st γ σ H c st' S q QQ k => by
  obtain ⟨us, st1, qa, q⟩ := M.bind_inv q
  obtain ⟨e, rfl⟩ := M.o_inv q
  by_cases hl : us.length ≤ sizeLine
  · rw [if_pos hl] at e
    cases e
    exact h os as st γ σ H us _ S qa _ fun vs H1 as1 g1 S1 pv => ⟨by rw [imAll_len pv]; exact hl, fun p hp => k _ _ as1 (g1.trans (Go.of_ex (Ex.new hp))) (S1.ex (Ex.new hp)) ⟨p, vs, rfl, upd_same, imAll_st (RB.of_ex (Ex.new hp)) _ _ pv⟩⟩
  · rw [if_neg hl] at e; cases e
theorem SDo.rt {os : Os} {as : SA} {st : Sto} {γ : List (U × V)} {H : Hp} {σ : L2.St} {u : U} {v : V} (S : SDo F os as st γ H σ δ) (h : im F.G (rts as) (ban F [] as) u v H) (hr : F.R as st H u v) : Rt F as st H u v :=
  ⟨S.rel, fun a b => S.ok a (b.elim .inl fun b => b.elim (fun z => nomatch z) fun z => .inr (.inr z)), (List.nodup_append.mp S.nd).2.1, fun a m => S.nb a (.inr m), StOk.mono (fun _ _ h => im_nil h) (fun _ _ h => h) (fun _ _ => rfl) S.sto, h, hr⟩
end
section
variable {F : Fr} {S S1 L : Type} {δ : Dl} {te ta tb : TE} {tt : TT} {w wa wb : M U} {wt : M Bool} {t t1 t2 u1 : TS} {δn : S → Dl} {δ1 : S1 → Dl} {δl : L → Dl}
theorem blk_last {wo : M (Out S L)} (h : Blk F (tSeq t tNext) δ wo δn δl) : Blk F t δ wo δn δl := h
theorem blk_end {s : S} (h : Weak δ (δn s)) : Blk F tNext δ (nxO s) δn δl := fun D os as st γ σ H o st' Q q P => by
  cases q; exact P os as σ H (Q.weak h)
theorem blk_ret (h : EvF F te δ w) (hR : F.R = noR := by rfl) : Blk F (tRet te) δ (rtO w : M (Out S L)) δn δl := fun D os as st γ σ H o st' Q q P => by
  obtain ⟨a, st1, qa, q⟩ := M.bind_inv q
  cases q
  exact h os as st γ σ H a _ Q qa _ fun v H1 as1 g1 S1 p => P as1 v H1 (S1.rt p (by rw [hR]; trivial))
theorem blk_seq {w1 : M (Out S1 L)} {w2 : S1 → M (Out S L)} (h1 : Blk F t1 δ w1 δ1 δl) (h2 : ∀ s, Blk F t2 (δ1 s) (w2 s) δn δl) : Blk F (tSeq t1 t2) δ (seqO w1 w2) δn δl := fun D os as st γ σ H o st' Q q P => by
  obtain ⟨o1, st1, q1, q⟩ := M.bind_inv q
  refine h1 _ os as st γ σ H o1 st1 Q q1 ?_
  cases o1 with
  | nx s => exact fun os2 as2 σ2 H2 S2 => h2 s D os2 as2 st1 γ σ2 H2 o st' S2 q P
  | rt u => cases q; exact P
  | bk l => cases q; exact P
  | ct l => cases q; exact P
theorem blk_if {wo wu : M (Out S L)} (h : EvT F tt δ wt) (h1 : Blk F t1 δ wo δn δl) (h2 : Blk F t2 δ wu δn δl) : Blk F (tIfS tt t1 t2) δ (iteW wt wo wu) δn δl := fun D os as st γ σ H o st' Q q P => by
  obtain ⟨b, st1, qb, q⟩ := M.bind_inv q
  refine h os as st γ σ H b _ Q qb _ fun H1 as1 g1 S1 => ?_
  cases b with
  | true => exact h1 D os as1 st1 γ σ H1 o st' S1 q P
  | false => exact h2 D os as1 st1 γ σ H1 o st' S1 q P
theorem blk_never {e : U} : Blk F tNever δ (.raise e : M (Out S L)) δn δl := fun D os as st γ σ H o st' Q q P => by cases q
theorem blk_set {i : Nat} {k : U → M (Out S L)} (h : EvW F te δ w) (h2 : ∀ u, Blk F t2 (δ.set i (some (.im u))) (k u) δn δl) : Blk F (tSeq (tAsg te (gName i)) t2) δ (.bind w k) δn δl := fun D os as st γ σ H o st' Q q P => by
  obtain ⟨u, st1, qu, q⟩ := M.bind_inv q
  exact h os as st γ σ H u _ Q qu _ fun v H1 as1 g1 S1 p => h2 u D os as1 st1 γ _ H1 o st' (S1.set p) q P
theorem blk_own {i : Nat} {s : Sh} {k : U → M (Out S L)} (h : EvN F s te δ w) (h2 : ∀ u, Blk F t2 (δ.set i (some (.own s u))) (k u) δn δl) : Blk F (tSeq (tAsg te (gName i)) t2) δ (.bind w k) δn δl := fun D os as st γ σ H o st' Q q P => by
  obtain ⟨u, st1, qu, q⟩ := M.bind_inv q
  refine h os as st γ σ H u _ Q qu _ fun v H1 as1 A g1 S1 p n => ?_
  obtain ⟨j, hj, hl⟩ := nodup_fresh (os.map (·.1)) δ.length
  exact h2 u D _ as1 st1 γ _ H1 o st' ((S1 j hj).own hl p) q P
theorem blk_frz {i : Nat} {s : Sh} {u : U} {wo : M (Out S L)} (h : δ[i]? = some (some (.own s u))) (h2 : Blk F t (δ.set i (some (.im u))) wo δn δl) : Blk F t δ wo δn δl := fun D os as st γ σ H o st' Q q P => by
  obtain ⟨v, e, A, m, p⟩ := Q.get h
  refine h2 D (os.filter fun q => decide (q.1 ≠ i)) as st γ σ H o st' ?_ q P
  have Q1 := Q.drop i
  have hp : im F.G (rts as) (ban F (os.filter fun q => decide (q.1 ≠ i)) as) u v H := by
    have sb : ∀ a, H a ≠ none → ban F (os.filter fun q => decide (q.1 ≠ i)) as a → ban F os as a := fun a _ b => b.elim .inl fun b => b.elim (fun z => .inr (.inl (flo_filt z))) fun z => .inr (.inr z)
    refine own_im s _ _ A (fun a z b => ?_) (own_mono (fun u v h => im_sub sb u v h) (fun _ _ h => h) _ _ _ _ (fun _ _ => rfl) p)
    rcases b with b | b | b
    · exact Q.nb a (.inl (mem_flo m z)) b
    · obtain ⟨A', m', z'⟩ := List.mem_flatten.mp b
      obtain ⟨q, mq, rfl⟩ := List.mem_map.mp m'
      obtain ⟨mq, ne⟩ := mem_filt mq
      have key : ∀ (l : Os), (flo l).Nodup → (i, A) ∈ l → q ∈ l → i = q.1 := by
        intro l
        induction l with
        | nil => intro _ m; cases m
        | cons r l ih =>
          intro nd m1 m2
          have nd' := List.nodup_append.mp (show (r.2 ++ flo l).Nodup from nd)
          rcases List.mem_cons.mp m1 with e1 | m1 <;> rcases List.mem_cons.mp m2 with e2 | m2
          · rw [e2, ← e1]
          · exact absurd rfl (nd'.2.2 a (by rw [← e1]; exact z) a (mem_flo (i := q.1) (A := q.2) m2 z'))
          · exact absurd rfl (nd'.2.2 a (by rw [← e2]; exact z') a (mem_flo m1 z))
          · exact ih nd'.2.1 m1 m2
      exact ne (key os (List.nodup_append.mp Q.nd).1 m mq).symm
    · exact (List.nodup_append.mp Q.nd).2.2 a (mem_flo m z) a b rfl
  have hs : σ.set i (some v) = σ := by
    apply List.ext_getElem?
    intro j
    by_cases z : i = j
    · subst z
      rw [List.getElem?_set_self (getElem?_lt e), e]
    · rw [List.getElem?_set_ne z]
  have := Q1.set (i := i) (x := .im u) hp
  rw [hs, List.set_set] at this
  exact this
end
end UX

set_option Elab.async false
set_option linter.all false
set_option maxRecDepth 100000
set_option maxHeartbeats 4000000
set_option autoImplicit false
namespace UX
open PySem PySem.Spec PyProof.Rows L2
open EL (Ex RB BOk Bn TK rAddU rMulU rSlU rEqU rNeU rLtU rLenQ rTupQ rListQ rReprD cut iSeqU)
structure WalkU (F : Fr) (J : It) (us : List U) (gh : List (U × V)) : Prop where
  goes : ∀ i os as st γ σ δ H, i < us.length → SDo F os as st (gh ++ γ) H σ δ → J.go i H
  stops : ∀ os as st γ σ δ H, SDo F os as st (gh ++ γ) H σ δ → J.stop us.length H
  yields : ∀ i os as st γ σ δ x H H' u, us[i]? = some u → SDo F os as st (gh ++ γ) H σ δ → J.yld i H x H' → Ex H H' ∧ im F.G (rts as) (ban F os as) u x H'
def Src (F : Fr) (wi : TI) (δ : Dl) (w : M (List U)) : Prop := ∀ os as st γ σ H us st', SDo F os as st γ H σ δ → w st = some (.ok us, st') → ∀ Q : It → Hp → Prop,
  (∀ J H' as' gh, Go as as' H H' → SDo F os as' st' (gh ++ γ) H' σ δ → WalkU F J us gh → Q J H') → wi σ H Q
section
variable {F : Fr} {os : Os} {as : SA} {st : Sto} {γ : List (U × V)} {H : Hp} {σ : L2.St} {δ : Dl}
theorem SDo.ghost (S : SDo F os as st γ H σ δ) {g : List (U × V)} (h : ∀ p ∈ g, im F.G (rts as) (ban F os as) p.1 p.2 H) : SDo F os as st (g ++ γ) H σ δ :=
  ⟨fun p m => (List.mem_append.mp m).elim (h p) (S.gh p), S.rel, S.ok, S.nd, S.ix, S.new, S.nb, S.sto, S.len, S.at_⟩
theorem SDo.unghost {g : List (U × V)} (S : SDo F os as st (g ++ γ) H σ δ) : SDo F os as st γ H σ δ :=
  ⟨fun p m => S.gh p (List.mem_append_right _ m), S.rel, S.ok, S.nd, S.ix, S.new, S.nb, S.sto, S.len, S.at_⟩
end
def itU : U → Option (List U)
  | .tup us => some us
  | .lst us => some us
  | .frl us => some us
  | _ => none
def rng1U : U → Option (List U)
  | .int n => if -(2 ^ 62) ≤ n ∧ n < 2 ^ 62 then some ((List.range n.toNat).map fun i => .int (i : Nat)) else none
  | _ => none
def rng2U : U → U → Option (List U)
  | .int a, .int b => if (-(2 ^ 62) ≤ a ∧ a < 2 ^ 62) ∧ (-(2 ^ 62) ≤ b ∧ b < 2 ^ 62) then some ((List.range (b - a).toNat).map fun i => .int (a + (i : Nat))) else none
  | _, _ => none
def itW (w : M U) : M (List U) := .bind w fun u => .o (itU u)
def rng1W (w : M U) : M (List U) := .bind w fun u => .o (rng1U u)
def rng2W (w w' : M U) : M (List U) := .bind w fun u => .bind w' fun u' => .o (rng2U u u')
section
variable {F : Fr} {δ : Dl} {te ta tb : TE} {w wa wb : M U}
theorem src_it (h : EvW F te δ w) : Src F (iSeqU F.G.K te) δ (itW w) := fun os as st γ σ H us st' S q Q k => by
  obtain ⟨u, st1, qu, q⟩ := M.bind_inv q
  obtain ⟨e, rfl⟩ := M.o_inv q
  have fin : ∀ st2 v H' as', Go as as' H H' → SDo F os as' st2 γ H' σ δ → im F.G (rts as') (ban F os as') u v H' → SDo F os as' st2 ([(u, v)] ++ γ) H' σ δ := fun st2 v H' as' g S' p => S'.ghost fun q m => by rw [List.mem_singleton] at m; rw [m]; exact p
  cases u <;> simp [itU] at e
  · subst e
    refine .inr (h os as st γ σ H _ _ S qu _ fun v H' as' g S' p => ?_)
    obtain ⟨a, vs, ev, hs, hv⟩ := id p
    refine ⟨a, ev, ⟨vs, EL.sqT_of hs⟩, k _ H' as' _ g (fin _ v H' as' g S' p) ⟨fun i os as st γ σ δ H hi S2 => ?_, fun os as st γ σ δ H S2 => ?_, fun i os as st γ σ δ x H H2 u e S2 y => ?_⟩⟩ <;> obtain ⟨a2, vs2, ev2, hs2, hv2⟩ := S2.gh _ List.mem_cons_self
    · rw [ev] at ev2; cases ev2
      exact walk_tup.goes i H (by rw [imAll_len hv2]; exact hi) (EL.sqT_of (K := F.G.K) hs2)
    · rw [ev] at ev2; cases ev2
      rw [← imAll_len hv2]
      exact walk_tup.stops H (EL.sqT_of (K := F.G.K) hs2)
    · rw [ev] at ev2; cases ev2
      obtain ⟨e1, e2⟩ := walk_tup.yields i H x H2 (by rw [imAll_len hv2]; exact getElem?_lt e) (EL.sqT_of (K := F.G.K) hs2) y
      subst e1
      refine ⟨Ex.refl _, ?_⟩
      obtain ⟨z, e3, e4⟩ := imAll_get hv2 e
      rw [e2] at e3; cases e3
      exact e4
  · subst e
    refine .inl (h os as st γ σ H _ _ S qu _ fun v H' as' g S' p => ?_)
    obtain ⟨a, vs, ev, nb, hs, hv⟩ := id p
    refine ⟨a, ev, ⟨vs, EL.sqL_of hs⟩, k _ H' as' _ g (fin _ v H' as' g S' p) ⟨fun i os as st γ σ δ H hi S2 => ?_, fun os as st γ σ δ H S2 => ?_, fun i os as st γ σ δ x H H2 u e S2 y => ?_⟩⟩ <;> obtain ⟨a2, vs2, ev2, nb2, hs2, hv2⟩ := S2.gh _ List.mem_cons_self
    · rw [ev] at ev2; cases ev2
      exact walk_list.goes i H (by rw [imAll_len hv2]; exact hi) (EL.sqL_of hs2)
    · rw [ev] at ev2; cases ev2
      rw [← imAll_len hv2]
      exact walk_list.stops H (EL.sqL_of hs2)
    · rw [ev] at ev2; cases ev2
      obtain ⟨e1, e2⟩ := walk_list.yields i H x H2 (by rw [imAll_len hv2]; exact getElem?_lt e) (EL.sqL_of hs2) y
      subst e1
      refine ⟨Ex.refl _, ?_⟩
      obtain ⟨z, e3, e4⟩ := imAll_get hv2 e
      rw [e2] at e3; cases e3
      exact e4
  · subst e
    refine .inl (h os as st γ σ H _ _ S qu _ fun v H' as' g S' p => ?_)
    obtain ⟨a, vs, ev, hs, hv⟩ := id p
    refine ⟨a, ev, ⟨vs, hs.sq⟩, k _ H' as' _ g (fin _ v H' as' g S' p) ⟨fun i os as st γ σ δ H hi S2 => ?_, fun os as st γ σ δ H S2 => ?_, fun i os as st γ σ δ x H H2 u e S2 y => ?_⟩⟩ <;> obtain ⟨a2, vs2, ev2, hs2, hv2⟩ := S2.gh _ List.mem_cons_self
    · rw [ev] at ev2; cases ev2
      exact walk_list.goes i H (by rw [imAll_len hv2]; exact hi) hs2.sq
    · rw [ev] at ev2; cases ev2
      rw [← imAll_len hv2]
      exact walk_list.stops H hs2.sq
    · rw [ev] at ev2; cases ev2
      obtain ⟨e1, e2⟩ := walk_list.yields i H x H2 (by rw [imAll_len hv2]; exact getElem?_lt e) hs2.sq y
      subst e1
      refine ⟨Ex.refl _, ?_⟩
      obtain ⟨z, e3, e4⟩ := imAll_get hv2 e
      rw [e2] at e3; cases e3
      exact e4
theorem rng_walk {lo : Int} {n : Nat} : WalkU F (Itr lo n) ((List.range n).map fun i => .int (lo + (i : Nat))) [] := by
  refine ⟨fun i os as st γ σ δ H hi S2 => walk_range.goes i H (by simpa using hi) trivial, fun os as st γ σ δ H S2 => ?_, fun i os as st γ σ δ x H H2 u e S2 y => ?_⟩
  · rw [List.length_map, List.length_range]; exact walk_range.stops H trivial
  · have hi : i < n := by have := getElem?_lt e; simpa using this
    obtain ⟨e1, e2⟩ := walk_range.yields i H x H2 hi trivial y
    subst e1 e2
    refine ⟨Ex.refl _, ?_⟩
    rw [List.getElem?_map, List.getElem?_range hi] at e
    cases e
    rfl
theorem src_range1 (h : EvR F ta δ w) : Src F (iRng1 (tCons ta tNil)) δ (rng1W w) := fun os as st γ σ H us st' S q Q k => by
  obtain ⟨u, st1, qu, q⟩ := M.bind_inv q
  obtain ⟨e, rfl⟩ := M.o_inv q
  cases u with
  | int n => ?_
  | _ => cases e
  simp only [rng1U] at e
  split at e
  case isFalse => cases e
  rename_i hc
  cases e
  refine h os as st γ σ H _ _ S qu _ fun v H' as' g S' p => ⟨n, by rw [show v = _ from p], by omega, by omega, k _ H' as' [] g S' ?_⟩
  have := rng_walk (F := F) (lo := 0) (n := n.toNat)
  simp only [Int.zero_add] at this
  exact this
end
def wipD (δ : Dl) : List Nat → Dl
  | [] => δ
  | v :: vs => (wipD δ vs).set v none
def TgOk (F : Fr) (g : TG) (vs : List Nat) (δ : Dl) (u : U) (δ' : Dl) : Prop := wipD δ' vs = wipD δ vs ∧ ∀ os as st γ H σ v, SDo F os as st γ H σ δ → im F.G (rts as) (ban F os as) u v H → ∀ Q : L2.St → Hp → Prop, (∀ σ', wipe σ' vs = wipe σ vs → SDo F os as st γ H σ' δ' → Q σ' H) → g v σ H Q
section
variable {F : Fr} {δ : Dl} {u a b c : U}
theorem wipe_set (σ : L2.St) (i : Nat) (o : Option V) : ∀ vs : List Nat, i ∈ vs → wipe (σ.set i o) vs = wipe σ vs
  | [], h => nomatch h
  | v :: vs, h => by
    show (wipe (σ.set i o) vs).set v none = (wipe σ vs).set v none
    by_cases z : i ∈ vs
    · rw [wipe_set σ i o vs z]
    · have e : i = v := by
        rcases List.mem_cons.mp h with e | e
        · exact e
        · exact absurd e z
      subst e
      have : ∀ (σ : L2.St) (vs : List Nat), i ∉ vs → wipe (σ.set i o) vs = (wipe σ vs).set i o := by
        intro σ vs
        induction vs with
        | nil => intro _; rfl
        | cons w ws ih =>
          intro n
          show (wipe (σ.set i o) ws).set w none = ((wipe σ ws).set w none).set i o
          rw [ih fun m => n (List.mem_cons_of_mem _ m), List.set_comm _ _ (fun z => n (by rw [z]; exact List.mem_cons_self))]
      rw [this σ vs z, List.set_set]
theorem wipD_set (σ : Dl) (i : Nat) (o : Option SV) : ∀ vs : List Nat, i ∈ vs → wipD (σ.set i o) vs = wipD σ vs
  | [], h => nomatch h
  | v :: vs, h => by
    show (wipD (σ.set i o) vs).set v none = (wipD σ vs).set v none
    by_cases z : i ∈ vs
    · rw [wipD_set σ i o vs z]
    · have e : i = v := by
        rcases List.mem_cons.mp h with e | e
        · exact e
        · exact absurd e z
      subst e
      have : ∀ (σ : Dl) (vs : List Nat), i ∉ vs → wipD (σ.set i o) vs = (wipD σ vs).set i o := by
        intro σ vs
        induction vs with
        | nil => intro _; rfl
        | cons w ws ih =>
          intro n
          show (wipD (σ.set i o) ws).set w none = ((wipD σ ws).set w none).set i o
          rw [ih fun m => n (List.mem_cons_of_mem _ m), List.set_comm _ _ (fun z => n (by rw [z]; exact List.mem_cons_self))]
      rw [this σ vs z, List.set_set]
theorem tg_name {i : Nat} {vs : List Nat} (h : i ∈ vs) : TgOk F (gName i) vs δ u (δ.set i (some (.im u))) := ⟨wipD_set _ _ _ _ h, fun os as st γ H σ v S p Q k => k _ (wipe_set _ _ _ _ h) (S.set p)⟩
theorem tg_two {i j : Nat} {vs : List Nat} (hi : i ∈ vs) (hj : j ∈ vs) : TgOk F (gTup F.G.K 2 (gCons (gName i) (gCons (gName j) gNil))) vs δ (.tup [a, b]) ((δ.set i (some (.im a))).set j (some (.im b))) := ⟨by rw [wipD_set _ _ _ _ hj, wipD_set _ _ _ _ hi], fun os as st γ H σ v S ⟨p, xs, e, hs, v1, r1, e1, h1, v2, r2, e2, h2, e3⟩ Q k => by
  subst e e1 e2; cases (show r2 = [] from e3)
  exact ⟨p, _, rfl, EL.sqT_of hs, rfl, v1, _, rfl, v2, _, rfl, rfl, k _ (by rw [wipe_set _ _ _ _ hj, wipe_set _ _ _ _ hi]) ((S.set (x := .im a) h1).set (x := .im b) h2)⟩⟩
theorem tg_three {i j l : Nat} {vs : List Nat} (hi : i ∈ vs) (hj : j ∈ vs) (hl : l ∈ vs) : TgOk F (gTup F.G.K 3 (gCons (gName i) (gCons (gName j) (gCons (gName l) gNil)))) vs δ (.tup [a, b, c]) (((δ.set i (some (.im a))).set j (some (.im b))).set l (some (.im c))) := ⟨by rw [wipD_set _ _ _ _ hl, wipD_set _ _ _ _ hj, wipD_set _ _ _ _ hi], fun os as st γ H σ v S ⟨p, xs, e, hs, v1, r1, e1, h1, v2, r2, e2, h2, v3, r3, e3, h3, e4⟩ Q k => by
  subst e e1 e2 e3; cases (show r3 = [] from e4)
  exact ⟨p, _, rfl, EL.sqT_of hs, rfl, v1, _, rfl, v2, _, rfl, v3, _, rfl, rfl, k _ (by rw [wipe_set _ _ _ _ hl, wipe_set _ _ _ _ hj, wipe_set _ _ _ _ hi]) (((S.set (x := .im a) h1).set (x := .im b) h2).set (x := .im c) h3)⟩⟩
end
section
variable {F : Fr} {S L : Type} {δ : Dl} {wi : TI} {g : TG} {tb : TS} {wl : M (List U)} {δl : S → Dl} {δ2 : L → Dl}
theorem blk_for {vs : List Nat} {f : U → S → M (Out S S)} {s0 : S} (hs : Src F wi δ wl) (h0 : Weak δ (δl s0))
    (hb : ∀ u s st r, f u s st = some r → ∃ δ', TgOk F g vs (δl s) u δ' ∧ Blk F tb δ' (f u s) δl δl) : Blk F (tFor wi g tb) δ (.bind wl fun us => forO f us s0) δl δ2 := fun D os as st γ σ H o st' Q q P => by
  obtain ⟨us, st1, qs, q⟩ := M.bind_inv q
  refine hs os as st γ σ H us _ Q qs _ fun J H1 as1 gh g1 S1 W => ?_
  refine ⟨fun i m σ Hc => m = us.length - i ∧ i ≤ us.length ∧ ∃ os2 as2 st2 s, SDo F os2 as2 st2 (gh ++ γ) Hc σ (δl s) ∧ forO (L := L) f (us.drop i) s st2 = some (.ok o, st'), ⟨us.length, by simp, Nat.zero_le _, os, as1, st1, s0, S1.weak h0, by rw [List.drop_zero]; exact q⟩, ?_⟩
  rintro i m σ2 Hc ⟨rfl, hi, os2, as2, st2, s, S2, q2⟩
  by_cases hlt : i < us.length
  · right
    refine ⟨W.goes i os2 as2 st2 γ σ2 _ Hc hlt S2, ?_⟩
    have ed : us.drop i = us[i] :: us.drop (i + 1) := List.drop_eq_getElem_cons hlt
    rw [ed, forO] at q2
    obtain ⟨o1, st3, q3, q2⟩ := M.bind_inv q2
    obtain ⟨δ', tg, bk⟩ := hb us[i] s st2 _ q3
    refine ⟨fun σ' H' => ∃ m', m' < us.length - i ∧ m' = us.length - (i + 1) ∧ i + 1 ≤ us.length ∧ ∃ os2 as2 st2 s, SDo F os2 as2 st2 (gh ++ γ) H' σ' (δl s) ∧ forO (L := L) f (us.drop (i + 1)) s st2 = some (.ok o, st'), fun σ' H' ⟨m', h1, h2, h3⟩ => ⟨m', h1, h2, h3⟩, fun x H' y => ?_⟩
    obtain ⟨ex, px⟩ := W.yields i os2 as2 st2 γ σ2 _ x Hc H' us[i] (List.getElem?_eq_getElem hlt) S2 y
    refine tg.2 os2 as2 st2 (gh ++ γ) H' σ2 x (S2.ex ex) px _ fun σ3 _ S3 => bk _ os2 as2 st2 (gh ++ γ) σ3 H' o1 st3 S3 q3 ?_
    cases o1 with
    | nx s' => exact fun os4 as4 σ4 H4 S4 => ⟨us.length - (i + 1), by omega, rfl, hlt, os4, as4, st3, s', S4, q2⟩
    | ct s' => exact fun os4 as4 σ4 H4 S4 => ⟨us.length - (i + 1), by omega, rfl, hlt, os4, as4, st3, s', S4, q2⟩
    | bk s' =>
      cases q2
      exact fun os4 as4 σ4 H4 S4 => P os4 as4 σ4 H4 S4.unghost
    | rt u =>
      cases q2
      exact P
  · left
    have e : i = us.length := by omega
    subst e
    rw [List.drop_length] at q2
    cases q2
    exact ⟨W.stops os2 as2 _ γ σ2 _ Hc S2, P os2 as2 σ2 Hc S2.unghost⟩
end
section
variable {F : Fr} {S L : Type} {δ : Dl} {te : TE} {w : M U} {t2 : TS} {δn : S → Dl} {δl : L → Dl}
theorem blk_tg {g : TG} {vs : List Nat} {k : U → M (Out S L)} (h : EvW F te δ w) (h2 : ∀ u st r, k u st = some r → ∃ δ', TgOk F g vs δ u δ' ∧ Blk F t2 δ' (k u) δn δl) : Blk F (tSeq (tAsg te g) t2) δ (.bind w k) δn δl := fun D os as st γ σ H o st' Q q P => by
  obtain ⟨u, st1, qu, q⟩ := M.bind_inv q
  refine h os as st γ σ H u _ Q qu _ fun v H1 as1 g1 S1 p => ?_
  obtain ⟨δ', tg, bk⟩ := h2 u st1 _ q
  exact tg.2 os as1 st1 γ H1 σ v S1 p _ fun σ' _ S2 => bk D os as1 st1 γ σ' H1 o st' S2 q P
theorem pat2 {α : Type} {P : Dl → M α → Prop} {i j : Nat} {vs : List Nat} (hi : i ∈ vs) (hj : j ∈ vs) {k : U → U → M α} (h : ∀ a b, P ((δ.set i (some (.im a))).set j (some (.im b))) (k a b)) : ∀ u st r, un2 u k st = some r → ∃ δ', TgOk F (gTup F.G.K 2 (gCons (gName i) (gCons (gName j) gNil))) vs δ u δ' ∧ P δ' (un2 u k) := by
  intro u st r e
  cases u <;> first | (cases e; done) | skip
  rename_i us
  match us, e with
  | [a, b], e => exact ⟨_, tg_two hi hj, h a b⟩
theorem pat3 {α : Type} {P : Dl → M α → Prop} {i j l : Nat} {vs : List Nat} (hi : i ∈ vs) (hj : j ∈ vs) (hl : l ∈ vs) {k : U → U → U → M α} (h : ∀ a b c, P (((δ.set i (some (.im a))).set j (some (.im b))).set l (some (.im c))) (k a b c)) : ∀ u st r, un3 u k st = some r → ∃ δ', TgOk F (gTup F.G.K 3 (gCons (gName i) (gCons (gName j) (gCons (gName l) gNil)))) vs δ u δ' ∧ P δ' (un3 u k) := by
  intro u st r e
  cases u <;> first | (cases e; done) | skip
  rename_i us
  match us, e with
  | [a, b, c], e => exact ⟨_, tg_three hi hj hl, h a b c⟩
end
end UX

set_option Elab.async false
set_option linter.all false
set_option maxRecDepth 100000
set_option maxHeartbeats 4000000
set_option autoImplicit false
namespace UX
open PySem PySem.Spec PyProof.Rows L2
open EL (Ex RB BOk Bn TK rAddU rMulU rSlU rEqU rNeU rLtU rLenQ rTupQ rListQ rReprD cut iSeqU)
def setOs (os : Os) (i : Nat) (A : List Addr) : Os := os.map fun p => if p.1 = i then (i, A) else p
section
variable {F : Fr} {os : Os} {as : SA} {st : Sto} {γ : List (U × V)} {H H' : Hp} {σ : L2.St} {δ : Dl} {i : Nat} {A A' : List Addr} {a : Addr}
theorem setOs_mem {p : Nat × List Addr} (h : p ∈ setOs os i A') : (p = (i, A') ∧ i ∈ os.map (·.1)) ∨ (p ∈ os ∧ p.1 ≠ i) := by
  obtain ⟨q, m, e⟩ := List.mem_map.mp h
  by_cases z : q.1 = i
  · rw [if_pos z] at e; exact .inl ⟨e.symm, List.mem_map.mpr ⟨q, m, z⟩⟩
  · rw [if_neg z] at e; subst e; exact .inr ⟨m, z⟩
theorem setOs_fst : (setOs os i A').map (·.1) = os.map (·.1) := by
  unfold setOs
  rw [List.map_map]
  apply List.map_congr_left
  intro p _
  show (if p.1 = i then (i, A') else p).1 = p.1
  split
  · rename_i h; exact h.symm
  · rfl
theorem setOs_flo {b : Addr} (h : b ∈ flo (setOs os i A')) : b ∈ A' ∨ b ∈ flo os := by
  obtain ⟨B, m, hb⟩ := List.mem_flatten.mp h
  obtain ⟨p, mp, rfl⟩ := List.mem_map.mp m
  rcases setOs_mem mp with ⟨e, _⟩ | ⟨m, _⟩
  · rw [e] at hb; exact .inl hb
  · exact .inr (mem_flo (i := p.1) (A := p.2) m hb)
theorem setOs_nodup (ix : (os.map (·.1)).Nodup) (m : (i, A) ∈ os) (nd : (flo os).Nodup) (nd' : A'.Nodup) (fr : ∀ b ∈ A', b ∈ A ∨ b ∉ flo os) : (flo (setOs os i A')).Nodup := by
  induction os with
  | nil => exact List.nodup_nil
  | cons p os ih =>
    have ix' := List.nodup_cons.mp (show (p.1 :: os.map (·.1)).Nodup from ix)
    have nd2 := List.nodup_append.mp (show (p.2 ++ flo os).Nodup from nd)
    by_cases z : p.1 = i
    · have e1 : setOs (p :: os) i A' = (i, A') :: os := by
        unfold setOs
        rw [List.map_cons, if_pos z]
        congr 1
        have : ∀ q ∈ os, (if q.1 = i then (i, A') else q) = q := fun q mq => if_neg fun e => ix'.1 (by rw [z, ← e]; exact List.mem_map_of_mem mq)
        rw [List.map_congr_left this, List.map_id']
      have e2 : (i, A) = p := by
        rcases List.mem_cons.mp m with e | m
        · exact e
        · exact absurd (List.mem_map_of_mem (f := (·.1)) m) (by rw [← z]; exact ix'.1)
      rw [e1]
      show (A' ++ flo os).Nodup
      refine List.nodup_append.mpr ⟨nd', nd2.2.1, fun b mb c mc e => ?_⟩
      subst e
      rcases fr b mb with q | q
      · exact nd2.2.2 b (by rw [← e2]; exact q) b mc rfl
      · exact q (List.mem_append_right _ mc)
    · have e1 : setOs (p :: os) i A' = p :: setOs os i A' := by
        unfold setOs
        rw [List.map_cons, if_neg z]
      have m' : (i, A) ∈ os := by
        rcases List.mem_cons.mp m with e | m
        · exact absurd (by rw [← e]) z
        · exact m
      rw [e1]
      show (p.2 ++ flo (setOs os i A')).Nodup
      refine List.nodup_append.mpr ⟨nd2.1, ih ix'.2 m' nd2.2.1 fun b mb => (fr b mb).imp id fun q w => q (List.mem_append_right _ w), fun b mb c mc e => ?_⟩
      subst e
      rcases setOs_flo mc with q | q
      · rcases fr b q with w | w
        · exact nd2.2.2 b mb b (mem_flo m' w) rfl
        · exact w (List.mem_append_left _ mb)
      · exact nd2.2.2 b mb b q rfl
structure Chg (F : Fr) (os : Os) (as : SA) (H H' : Hp) (i : Nat) (A A' : List Addr) (a : Addr) : Prop where
  m : (i, A) ∈ os
  ha : a ∈ A
  kp : ∀ b o, H b = some o → b ≠ a → H' b = some o
  al : H' a ≠ none
  hA : ∀ b ∈ A', b ∈ A ∨ H b = none
  nd : A'.Nodup
  al' : ∀ b ∈ A', H' b ≠ none
  nt : ∀ xs, H a ≠ some (.tup xs)
  nf : ∀ o u, H a ≠ some (.frz o u)
theorem Chg.rb (c : Chg F os as H H' i A A' a) : RB (ban F os as) H H' := by
  have hb : ban F os as a := .inr (.inl (mem_flo c.m c.ha))
  refine ⟨fun b o n e => c.kp b o e (fun z => n (z ▸ hb)), fun b xs e => c.kp b _ e fun z => c.nt xs (z ▸ e), fun b o u e => c.kp b _ e fun z => c.nf o u (z ▸ e), fun b _ n => ?_⟩
  by_cases z : b = a
  · rw [z]; exact c.al
  · cases e : H b with
    | none => exact absurd e n
    | some o => rw [c.kp b o e z]; exact fun q => nomatch q
theorem Chg.ban (c : Chg F os as H H' i A A' a) : ∀ b, H b ≠ none → UX.ban F (setOs os i A') as b → UX.ban F os as b := fun b n h => by
  rcases h with h | h | h
  · exact .inl h
  · rcases setOs_flo h with q | q
    · rcases c.hA b q with w | w
      · exact .inr (.inl (mem_flo c.m w))
      · exact absurd w n
    · exact .inr (.inl q)
  · exact .inr (.inr h)
theorem Chg.im (c : Chg F os as H H' i A A' a) {u : U} {v : V} (h : UX.im F.G (rts as) (UX.ban F os as) u v H) : UX.im F.G (rts as) (UX.ban F (setOs os i A') as) u v H' := by
  have h1 : UX.im F.G (rts as) (fun b => UX.ban F (setOs os i A') as b ∨ UX.ban F os as b) u v H := im_sub (fun b n z => z.elim (c.ban b n) id) _ _ h
  exact im_sub (fun b _ z => .inl z) _ _ (im_st (c.rb.sub fun _ z => .inr z) _ _ h1)
theorem Chg.imAll (c : Chg F os as H H' i A A' a) : ∀ {us : List U} {vs : List V}, UX.imAll F.G (rts as) (UX.ban F os as) us vs H → UX.imAll F.G (rts as) (UX.ban F (setOs os i A') as) us vs H'
  | [], _, h => h
  | u :: us, _, ⟨v, w, e, h1, h2⟩ => ⟨v, w, e, c.im h1, c.imAll h2⟩
theorem SDo.mut (S : SDo F os as st γ H σ δ) (c : Chg F os as H H' i A A' a) {x : Option SV} (hx : ∀ s, x = some s → ∃ sh u v, s = .own sh u ∧ σ[i]? = some (some v) ∧ ownD F.G (rts as) (ban F (setOs os i A') as) sh u v H' A') : SDo F (setOs os i A') as st γ H' σ (δ.set i x) := by
  have tp : ∀ b xs, H b = some (.tup xs) → H' b = some (.tup xs) := fun b xs h => c.rb.tup _ _ h
  have na : ∀ b, b ∈ fl as → b ≠ a := fun b m z => (List.nodup_append.mp S.nd).2.2 a (mem_flo c.m c.ha) b m z.symm
  have kq : ∀ b, ban F os as b → b ≠ a → H' b = H b := fun b hb n => by
    cases e : H b with
    | none => exact absurd e (S.ok b hb)
    | some o => exact c.kp b o e n
  have nbA : ∀ b ∈ A', ¬ F.B b := fun b m z => by
    rcases c.hA b m with w | w
    · exact S.nb b (.inl (mem_flo c.m w)) z
    · exact S.ok b (.inl z) w
  refine ⟨fun p m => c.im (S.gh p m), ?_, fun b hb => ?_, ?_, by rw [setOs_fst]; exact S.ix, fun b hb => ?_, fun b z => ?_, StOk.mono (fun _ _ h => c.im h) tp (fun b m => kq b (.inr (.inr m)) (na b m)) S.sto, by rw [List.length_set]; exact S.len, fun j s e => ?_⟩
  · refine ⟨⟨fun b o n e => ?_, fun b xs e => ?_, fun b o u e => ?_, fun b _ n => ?_⟩, S.rel.pre, S.rel.new⟩
    · exact c.kp b o (S.rel.rb.keep b o n e) fun z => by rw [z, S.new a (mem_flo c.m c.ha)] at e; cases e
    · exact c.kp b _ (S.rel.rb.tup b xs e) fun z => by rw [z, S.new a (mem_flo c.m c.ha)] at e; cases e
    · exact c.kp b _ (S.rel.rb.frz b o u e) fun z => by rw [z, S.new a (mem_flo c.m c.ha)] at e; cases e
    · exact rb_alive c.rb (S.rel.alive n)
  · rcases hb with hb | hb | hb
    · exact rb_alive c.rb (S.ok b (.inl hb))
    · rcases setOs_flo hb with q | q
      · exact c.al' b q
      · exact rb_alive c.rb (S.ok b (.inr (.inl q)))
    · exact rb_alive c.rb (S.ok b (.inr (.inr hb)))
  · have nd := List.nodup_append.mp S.nd
    refine List.nodup_append.mpr ⟨setOs_nodup S.ix c.m nd.1 c.nd fun b m => (c.hA b m).imp id fun w q => S.ok b (.inr (.inl q)) w, nd.2.1, fun b mb d md e => ?_⟩
    subst e
    rcases setOs_flo mb with q | q
    · rcases c.hA b q with w | w
      · exact nd.2.2 b (mem_flo c.m w) b md rfl
      · exact S.ok b (.inr (.inr md)) w
    · exact nd.2.2 b q b md rfl
  · rcases setOs_flo hb with q | q
    · rcases c.hA b q with w | w
      · exact S.new b (mem_flo c.m w)
      · exact S.rel.fresh w
    · exact S.new b q
  · rcases z with z | z
    · rcases setOs_flo z with q | q
      · exact nbA b q
      · exact S.nb b (.inl q)
    · exact S.nb b (.inr z)
  · by_cases hj : i = j
    · subst hj
      have hl : i < δ.length := by have := getElem?_lt e; rwa [List.length_set] at this
      rw [List.getElem?_set_self hl] at e
      obtain ⟨sh, u, v, rfl, h1, h2⟩ := hx s (Option.some.inj e)
      exact ⟨v, h1, A', List.mem_map.mpr ⟨(i, A), c.m, if_pos rfl⟩, h2⟩
    · rw [List.getElem?_set_ne hj] at e
      obtain ⟨w, h1, h2⟩ := S.at_ j s e
      refine ⟨w, h1, ?_⟩
      match s, h2 with
      | .im u, h2 => exact c.im h2
      | .raw _, h2 => exact h2
      | .own sh u, ⟨B, m, h2⟩ =>
        refine ⟨B, List.mem_map.mpr ⟨(j, B), m, if_neg fun z => hj z.symm⟩, own_mono (fun _ _ h => c.im h) tp _ _ _ _ (fun b mb => kq b (.inr (.inl (mem_flo m mb))) fun z => ?_) h2⟩
        have key : ∀ (l : Os), (flo l).Nodup → (i, A) ∈ l → (j, B) ∈ l → i = j := by
          intro l
          induction l with
          | nil => intro _ m; cases m
          | cons r l ih =>
            intro nd m1 m2
            have nd' := List.nodup_append.mp (show (r.2 ++ flo l).Nodup from nd)
            rcases List.mem_cons.mp m1 with e1 | m1 <;> rcases List.mem_cons.mp m2 with e2 | m2
            · rw [← e1] at e2; exact (Prod.mk.inj e2).1.symm
            · exact absurd rfl (nd'.2.2 a (by rw [← e1]; exact c.ha) a (mem_flo m2 (z ▸ mb)))
            · exact absurd rfl (nd'.2.2 a (by rw [← e2]; exact z ▸ mb) a (mem_flo m1 c.ha))
            · exact ih nd'.2.1 m1 m2
        exact hj (key os (List.nodup_append.mp S.nd).1 c.m m)
theorem os_nodup : ∀ (l : Os), (flo l).Nodup → (i, A) ∈ l → A.Nodup := by
  intro l
  induction l with
  | nil => intro _ m; cases m
  | cons r l ih =>
    intro nd m1
    have nd' := List.nodup_append.mp (show (r.2 ++ flo l).Nodup from nd)
    rcases List.mem_cons.mp m1 with e1 | m1
    · rw [show A = r.2 by rw [← e1]]; exact nd'.1
    · exact ih nd'.2.1 m1
theorem chg_same {o o' : HO} (m : (i, A) ∈ os) (ha : a ∈ A) (S : SDo F os as st γ H σ δ) (e : H a = some o) (nt : ∀ xs, o ≠ .tup xs) (nf : ∀ x u, o ≠ .frz x u) : Chg F os as H (upd H a o') i A A a := by
  refine ⟨m, ha, fun b u eb n => ?_, ?_, fun b mb => .inl mb, os_nodup os (List.nodup_append.mp S.nd).1 m, fun b mb => ?_, fun xs z => ?_, fun x u z => ?_⟩
  · rw [upd_ne n]; exact eb
  · rw [upd_same]; exact fun z => nomatch z
  · by_cases z : b = a
    · rw [z, upd_same]; exact fun z => nomatch z
    · rw [upd_ne z]; exact S.ok b (.inr (.inl (mem_flo m mb)))
  · rw [e] at z; exact nt xs (Option.some.inj z)
  · rw [e] at z; exact nf x u (Option.some.inj z)
theorem setOs_same (ix : (os.map (·.1)).Nodup) (m : (i, A) ∈ os) : setOs os i A = os := by
  unfold setOs
  have : ∀ q ∈ os, (if q.1 = i then (i, A) else q) = q := fun q mq => by
    by_cases z : q.1 = i
    · rw [if_pos z]
      have key : ∀ (l : Os), (l.map (·.1)).Nodup → (i, A) ∈ l → q ∈ l → (i, A) = q := by
        intro l
        induction l with
        | nil => intro _ m; cases m
        | cons r l ih =>
          intro nd m1 m2
          have nd' := List.nodup_cons.mp (show (r.1 :: l.map (·.1)).Nodup from nd)
          rcases List.mem_cons.mp m1 with e1 | m1 <;> rcases List.mem_cons.mp m2 with e2 | m2
          · rw [e1, e2]
          · exact absurd (List.mem_map_of_mem (f := (·.1)) m2) (by rw [z, show i = r.1 by rw [← e1]]; exact nd'.1)
          · exact absurd (List.mem_map_of_mem (f := (·.1)) m1) (by rw [← z, e2]; exact nd'.1)
          · exact ih nd'.2 m1 m2
      exact key os ix m mq
    · rw [if_neg z]
  rw [List.map_congr_left this, List.map_id']
theorem SDo.reix {k k' : Nat} {B : List Addr} (S : SDo F ((k, B) :: os) as st γ H σ δ) (hk : δ.length ≤ k) (hk' : k' ∉ os.map (·.1)) : SDo F ((k', B) :: os) as st γ H σ δ := by
  refine ⟨S.gh, S.rel, S.ok, S.nd, List.nodup_cons.mpr ⟨hk', (List.nodup_cons.mp S.ix).2⟩, S.new, S.nb, S.sto, S.len, fun j s e => ?_⟩
  obtain ⟨w, h1, h2⟩ := S.at_ j s e
  refine ⟨w, h1, ?_⟩
  match s, h2 with
  | .im u, h2 => exact h2
  | .raw _, h2 => exact h2
  | .own sh u, ⟨C, m, h2⟩ =>
    refine ⟨C, ?_, h2⟩
    rcases List.mem_cons.mp m with z | m
    · have := getElem?_lt e
      have : j = k := (Prod.mk.inj z).1
      omega
    · exact List.mem_cons_of_mem _ m
end
end UX

set_option Elab.async false
set_option linter.all false
set_option maxRecDepth 100000
set_option maxHeartbeats 4000000
set_option autoImplicit false
namespace UX
open PySem PySem.Spec PyProof.Rows L2
open EL (Ex RB BOk Bn TK rAddU rMulU rSlU rEqU rNeU rLtU rLenQ rTupQ rListQ rReprD cut iSeqU)
def compM (wt : U → M Bool) (we : U → M U) : List U → M (List U)
  | [] => .ret []
  | x :: xs => .bind (wt x) fun b => if b = true then .bind (we x) fun u => .bind (compM wt we xs) fun r => .ret (u :: r) else compM wt we xs
def szU (us : List U) : Option U := if us.length ≤ sizeLine then some (.lst us) else none
def lcW (wl : M (List U)) (wt : U → M Bool) (we : U → M U) : M U := .bind wl fun us => .bind (compM wt we us) fun r => .o (szU r)
def noOwn (δ : Dl) (vs : List Nat) : Bool := vs.all fun (j : Nat) => match δ[j]? with
  | some (some (.own _ _)) => false
  | some (some (.raw _)) => false
  | _ => true
section
variable {F : Fr} {os : Os} {as as' : SA} {st st' : Sto} {γ : List (U × V)} {H H' : Hp} {σ : L2.St} {δ : Dl}
theorem SDo.wipe (S : SDo F os as st γ H σ δ) : ∀ vs : List Nat, SDo F os as st γ H (L2.wipe σ vs) (wipD δ vs)
  | [] => S
  | v :: vs => (SDo.wipe S vs).unset
theorem wipe_idem (σ : L2.St) (vs : List Nat) : L2.wipe (L2.wipe σ vs) vs = L2.wipe σ vs := by
  have key : ∀ (ws : List Nat), (∀ w ∈ ws, w ∈ vs) → L2.wipe (L2.wipe σ ws) vs = L2.wipe σ vs := by
    intro ws
    induction ws with
    | nil => intro _; rfl
    | cons w ws ih =>
      intro h
      show L2.wipe ((L2.wipe σ ws).set w none) vs = _
      rw [wipe_set _ _ _ _ (h w List.mem_cons_self), ih fun x m => h x (List.mem_cons_of_mem _ m)]
  exact key vs fun _ m => m
theorem wipD_idem (δ : Dl) (vs : List Nat) : wipD (wipD δ vs) vs = wipD δ vs := by
  have key : ∀ (ws : List Nat), (∀ w ∈ ws, w ∈ vs) → wipD (wipD δ ws) vs = wipD δ vs := by
    intro ws
    induction ws with
    | nil => intro _; rfl
    | cons w ws ih =>
      intro h
      show wipD ((wipD δ ws).set w none) vs = _
      rw [wipD_set _ _ _ _ (h w List.mem_cons_self), ih fun x m => h x (List.mem_cons_of_mem _ m)]
  exact key vs fun _ m => m
theorem wipD_len (δ : Dl) : ∀ vs : List Nat, (wipD δ vs).length = δ.length
  | [] => rfl
  | v :: vs => by show ((wipD δ vs).set v none).length = _; rw [List.length_set, wipD_len δ vs]
theorem wipD_ne (δ : Dl) {j : Nat} : ∀ vs : List Nat, j ∉ vs → (wipD δ vs)[j]? = δ[j]?
  | [], _ => rfl
  | v :: vs, h => by
    show ((wipD δ vs).set v none)[j]? = _
    rw [List.getElem?_set_ne (fun z => h (by rw [← z]; exact List.mem_cons_self)), wipD_ne δ vs fun m => h (List.mem_cons_of_mem _ m)]
theorem wipe_ne (σ : L2.St) {j : Nat} : ∀ vs : List Nat, j ∉ vs → (L2.wipe σ vs)[j]? = σ[j]?
  | [], _ => rfl
  | v :: vs, h => by
    show ((L2.wipe σ vs).set v none)[j]? = _
    rw [List.getElem?_set_ne (fun z => h (by rw [← z]; exact List.mem_cons_self)), wipe_ne σ vs fun m => h (List.mem_cons_of_mem _ m)]
def ghv (σ : L2.St) (δ : Dl) (vs : List Nat) : List (U × V) := vs.filterMap fun (j : Nat) => match δ[j]?, σ[j]? with
  | some (some (.im u)), some (some v) => some (u, v)
  | _, _ => none
theorem ghv_ok (S : SDo F os as st γ H σ δ) (vs : List Nat) : ∀ p ∈ ghv σ δ vs, im F.G (rts as) (ban F os as) p.1 p.2 H := fun p m => by
  obtain ⟨j, _, e⟩ := List.mem_filterMap.mp m
  split at e
  · rename_i u v e1 e2
    cases e
    obtain ⟨w, h1, h2⟩ := S.at_ j _ e1
    rw [e2] at h1; cases h1
    exact h2
  · cases e
theorem SDo.restore {g : List (U × V)} {vs : List Nat} {os0 : Os} {as0 : SA} {st0 : Sto} {γ0 : List (U × V)} {H0 : Hp} (S0 : SDo F os0 as0 st0 γ0 H0 σ δ) (no : noOwn δ vs = true) (S : SDo F os as st (ghv σ δ vs ++ γ) H (L2.wipe σ vs) (wipD δ vs)) : SDo F os as st γ H σ δ := by
  refine ⟨fun p m => S.gh p (List.mem_append_right _ m), S.rel, S.ok, S.nd, S.ix, S.new, S.nb, S.sto, S0.len, fun j s e => ?_⟩
  by_cases hj : j ∈ vs
  · have h1 := List.all_eq_true.mp no j hj
    rw [e] at h1
    match s, h1, e with
    | .im u, _, e =>
      obtain ⟨v, h2, _⟩ := S0.at_ j _ e
      refine ⟨v, h2, S.gh (u, v) (List.mem_append_left _ (List.mem_filterMap.mpr ⟨j, hj, ?_⟩))⟩
      simp only [e, h2]
  · obtain ⟨v, h1, h2⟩ := S.at_ j s (by rw [wipD_ne _ _ hj]; exact e)
    exact ⟨v, by rw [wipe_ne _ _ hj] at h1; exact h1, h2⟩
structure LS (F : Fr) (os : Os) (k0 : Nat) (D : Addr) (as : SA) (st : Sto) (γ : List (U × V)) (H : Hp) (σ : L2.St) (δ : Dl) (accU : List U) : Prop where
  S : SDo F ((k0, [D]) :: os) as st γ H σ δ
  a : ∃ acc, H D = some (.lst acc) ∧ imAll F.G (rts as) (ban F ((k0, [D]) :: os) as) accU acc H
variable {k0 : Nat} {D : Addr} {accU : List U}
theorem LS.go (l : LS F os k0 D as st γ H σ δ accU) {σ' : L2.St} {δ' : Dl} (g : Go as as' H H') (S : SDo F ((k0, [D]) :: os) as' st' γ H' σ' δ') : LS F os k0 D as' st' γ H' σ' δ' accU := by
  obtain ⟨acc, e, h⟩ := l.a
  refine ⟨S, acc, g.rb.keep _ _ (fun m => ?_) e, imAll_go g h⟩
  exact (List.nodup_append.mp l.S.nd).2.2 D (List.mem_append_left _ List.mem_cons_self) D m rfl
theorem LS.push (l : LS F os k0 D as st γ H σ δ accU) (hk : δ.length ≤ k0) {u : U} {y : V} (p : im F.G (rts as) (ban F ((k0, [D]) :: os) as) u y H) : ∃ acc, H D = some (.lst acc) ∧ acc.length = accU.length ∧ LS F os k0 D as st γ (upd H D (.lst (acc ++ [y]))) σ δ (accU ++ [u]) := by
  obtain ⟨acc, e, h⟩ := l.a
  have c : Chg F ((k0, [D]) :: os) as H (upd H D (.lst (acc ++ [y]))) k0 [D] [D] D := chg_same List.mem_cons_self List.mem_cons_self l.S e (fun _ z => nomatch z) (fun _ _ z => nomatch z)
  have S := l.S.mut c (x := none) (fun _ z => nomatch z)
  have hi := imAll_snoc (c.imAll h) (c.im p)
  rw [setOs_same l.S.ix List.mem_cons_self] at S hi
  rw [List.set_eq_of_length_le hk] at S
  exact ⟨acc, e, imAll_len h, S, _, upd_same, hi⟩
end
section
variable {F : Fr} {δ : Dl} {wi wi1 : TI} {g g1 : TG} {tt tt1 : TT} {te : TE} {vs vs1 : List Nat} {wl : M (List U)}
theorem go_new {as : SA} {H H1 : Hp} {D : Addr} {o : HO} {as0 : SA} {H0 : Hp} (g : Go as0 as H0 H) (hD : H0 D = none) : Go as0 as H0 (upd H D o) := by
  refine ⟨⟨fun b u n e => ?_, fun b xs e => ?_, fun b x u e => ?_, fun b m n => ?_⟩, g.pre, g.new⟩
  · rw [upd_ne (ne_of_none e hD)]; exact g.rb.keep b u n e
  · rw [upd_ne (ne_of_none e hD)]; exact g.rb.tup b xs e
  · rw [upd_ne (ne_of_none e hD)]; exact g.rb.frz b x u e
  · by_cases z : b = D
    · rw [z] at n; exact absurd hD n
    · rw [upd_ne z]; exact g.alive n
theorem en_lc {wt : U → M Bool} {we : U → M U} (no : noOwn δ vs = true) (hs : Src F wi δ wl)
    (hb : ∀ u st r, wt u st = some r → ∃ δ', TgOk F g vs (wipD δ vs) u δ' ∧ EvT F tt δ' (wt u) ∧ EvW F te δ' (we u)) : EvN F (.lst .leaf) (tLc wi g tt te vs) δ (lcW wl wt we) := fun os as st γ σ H c st' S q QQ k => by
  obtain ⟨us, st1, qs, q⟩ := M.bind_inv q
  obtain ⟨r, st2, qr, q⟩ := M.bind_inv q
  obtain ⟨e, rfl⟩ := M.o_inv q
  unfold szU at e
  by_cases hsz : r.length ≤ sizeLine
  case neg => rw [if_neg hsz] at e; cases e
  rw [if_pos hsz] at e
  cases e
  refine hs os as st (ghv σ δ vs ++ γ) σ H us st1 (S.ghost (ghv_ok S vs)) qs _ fun J H1 as1 gh g1 S1 W D hD => ?_
  obtain ⟨k0, hk0, hkl⟩ := nodup_fresh (os.map (·.1)) δ.length
  have S2 := S1.grow hk0 hD (Ex.new (o := .lst []) hD) (by rw [upd_same]; exact fun z => nomatch z)
  have hD0 : H D = none := g1.fresh hD
  have hkw : (wipD δ vs).length ≤ k0 := by rw [wipD_len]; exact hkl
  refine ⟨fun i m Hc => m = us.length - i ∧ i ≤ us.length ∧ ∃ as2 st2 accU rest, Go as as2 H Hc ∧ LS F os k0 D as2 st2 (gh ++ (ghv σ δ vs ++ γ)) Hc (L2.wipe σ vs) (wipD δ vs) accU ∧ compM wt we (us.drop i) st2 = some (.ok rest, st') ∧ accU ++ rest = r,
    ⟨us.length, by simp, Nat.zero_le _, as1, st1, [], r, go_new (H1 := H) g1 hD0, ⟨S2.wipe vs, [], upd_same, rfl⟩, by rw [List.drop_zero]; exact qr, rfl⟩, ?_⟩
  rintro i m Hc ⟨rfl, hi, as2, st2, accU, rest, g2, l2, q2, er⟩
  by_cases hlt : i < us.length
  · right
    refine ⟨W.goes i _ as2 st2 _ _ _ Hc hlt l2.S, fun H' => ∃ m', m' < us.length - i ∧ m' = us.length - (i + 1) ∧ i + 1 ≤ us.length ∧ ∃ as2 st2 accU rest, Go as as2 H H' ∧ LS F os k0 D as2 st2 (gh ++ (ghv σ δ vs ++ γ)) H' (L2.wipe σ vs) (wipD δ vs) accU ∧ compM wt we (us.drop (i + 1)) st2 = some (.ok rest, st') ∧ accU ++ rest = r, fun H' ⟨m', h1, h2, h3⟩ => ⟨m', h1, h2, h3⟩, fun x H' y => ?_⟩
    have ed : us.drop i = us[i] :: us.drop (i + 1) := List.drop_eq_getElem_cons hlt
    rw [ed, compM] at q2
    obtain ⟨b, st3, q3, q2⟩ := M.bind_inv q2
    obtain ⟨δ', tg, ht, he⟩ := hb us[i] st2 _ q3
    obtain ⟨ex, px⟩ := W.yields i _ as2 st2 _ _ _ x Hc H' us[i] (List.getElem?_eq_getElem hlt) l2.S y
    have gx : Go as2 as2 Hc H' := Go.of_ex ex
    have l3 := l2.go gx (l2.S.ex ex)
    refine tg.2 _ as2 st2 _ H' _ x l3.S px _ fun σ2 wq S3 => ⟨by rw [wq, wipe_idem], ?_⟩
    have back : ∀ {as4 : SA} {st4 : Sto} {H4 : Hp}, SDo F ((k0, [D]) :: os) as4 st4 (gh ++ (ghv σ δ vs ++ γ)) H4 σ2 δ' → SDo F ((k0, [D]) :: os) as4 st4 (gh ++ (ghv σ δ vs ++ γ)) H4 (L2.wipe σ vs) (wipD δ vs) := fun S4 => by
      have := S4.wipe vs
      rw [wq, wipe_idem, tg.1, wipD_idem] at this
      exact this
    refine ht _ as2 st2 _ σ2 H' b st3 S3 q3 _ fun H3 as3 g3 S4 => ?_
    cases b with
    | false => exact ⟨us.length - (i + 1), by omega, rfl, hlt, as3, st3, accU, rest, (g2.trans gx).trans g3, l3.go g3 (back S4), q2, er⟩
    | true =>
      simp only [if_true] at q2 ⊢
      obtain ⟨u, st5, q5, q2⟩ := M.bind_inv q2
      obtain ⟨r', st6, q6, q2⟩ := M.bind_inv q2
      cases q2
      refine he _ as3 st3 _ σ2 H3 u st5 S4 q5 _ fun y H5 as5 g5 S5 py => ?_
      obtain ⟨acc, e1, e2, l5⟩ := ((l3.go g3 (back S4)).go g5 (back S5)).push hkw py
      refine ⟨acc, e1, ?_, us.length - (i + 1), by omega, rfl, hlt, as5, st5, accU ++ [u], r', go_new (H1 := H) (((g2.trans gx).trans g3).trans g5) hD0, l5, q6, by rw [List.append_assoc]; exact er⟩
      rw [e2]
      rw [← er, List.length_append, List.length_cons] at hsz
      omega
  · left
    have e : i = us.length := by omega
    subst e
    rw [List.drop_length] at q2
    cases q2
    rw [List.append_nil] at er
    subst er
    refine ⟨W.stops _ as2 _ _ _ _ Hc l2.S, ?_⟩
    obtain ⟨acc, e1, h1⟩ := l2.a
    refine k _ Hc as2 [D] g2 (fun k hk => ?_) (own_lst.mpr ⟨D, acc, rfl, rfl, e1, h1⟩) fun a m => by rw [List.mem_singleton] at m; rw [m]; exact hD0
    have : SDo F ((k0, [D]) :: os) as2 _ γ Hc σ δ := SDo.restore (g := []) (vs := vs) S no l2.S.unghost
    exact this.reix hkl hk
end
end UX

set_option Elab.async false
set_option linter.all false
set_option maxRecDepth 100000
set_option maxHeartbeats 4000000
set_option autoImplicit false
namespace UX
open PySem PySem.Spec PyProof.Rows L2
open EL (Ex RB BOk Bn TK rAddU rMulU rSlU rEqU rNeU rLtU rLenQ rTupQ rListQ rReprD cut iSeqU)
def comp2M (wt : U → M Bool) (wl : U → M (List U)) (wt1 : U → U → M Bool) (we : U → U → M U) : List U → M (List U)
  | [] => .ret []
  | x :: xs => .bind (wt x) fun b => if b = true then .bind (wl x) fun ys => .bind (compM (wt1 x) (we x) ys) fun r1 => .bind (comp2M wt wl wt1 we xs) fun r => .ret (r1 ++ r) else comp2M wt wl wt1 we xs
def lc2W (w0 : M (List U)) (wt : U → M Bool) (wl : U → M (List U)) (wt1 : U → U → M Bool) (we : U → U → M U) : M U := .bind w0 fun us => .bind (comp2M wt wl wt1 we us) fun r => .o (szU r)
section
variable {F : Fr} {δ : Dl} {wi wi1 : TI} {g g1 : TG} {tt tt1 : TT} {te : TE} {vs vs1 : List Nat} {w0 : M (List U)}
end
end UX

set_option Elab.async false
set_option linter.all false
set_option maxRecDepth 100000
set_option maxHeartbeats 4000000
set_option autoImplicit false
namespace UX
open PySem PySem.Spec PyProof.Rows L2
open EL (Ex RB BOk Bn TK FnG okG)
theorem Weak.refl : ∀ δ : Dl, Weak δ δ
  | [] => trivial
  | none :: δ => Weak.refl δ
  | some x :: δ => ⟨rfl, Weak.refl δ⟩
theorem Weak.trans : ∀ {a b c : Dl}, Weak a b → Weak b c → Weak a c
  | [], [], [], _, _ => trivial
  | _ :: a, none :: b, none :: c, h, k => Weak.trans (a := a) (b := b) (c := c) h k
  | _ :: a, some _ :: b, none :: c, h, k => Weak.trans (a := a) (b := b) (c := c) h.2 k
  | _ :: a, some _ :: b, some _ :: c, h, k => ⟨h.1.trans k.1, Weak.trans (a := a) (b := b) (c := c) h.2 k.2⟩
  | _ :: a, none :: b, some _ :: c, _, k => nomatch k.1
  | [], [], _ :: _, _, k => k.elim
  | [], _ :: _, _, h, _ => h.elim
  | _ :: _, [], _, h, _ => nomatch h
  | _ :: _, none :: _, [], _, k => nomatch k
  | _ :: _, some _ :: _, [], _, k => nomatch k
theorem weak_set : ∀ (δ : Dl) (i : Nat), Weak δ (δ.set i none)
  | [], _ => trivial
  | x :: δ, 0 => Weak.refl δ
  | none :: δ, i + 1 => weak_set δ i
  | some _ :: δ, i + 1 => ⟨rfl, weak_set δ i⟩
theorem weak_wip (δ : Dl) : ∀ vs : List Nat, Weak δ (wipD δ vs)
  | [] => Weak.refl δ
  | v :: vs => (weak_wip δ vs).trans (weak_set _ v)
section
variable {F : Fr} {S S1 L : Type} {δ : Dl} {wi : TI} {g : TG} {tb t1 t2 t : TS} {wl : M (List U)} {δ2 : L → Dl} {δn : S → Dl} {δl : L → Dl} {tt : TT} {wt : M Bool}
theorem blk_fin (vs : List Nat) {s : S} (h : wipD δ vs = δn s) : Blk F tNext δ (nxO s) δn δl := blk_end (h ▸ weak_wip δ vs)
end
def spM (G : Cxt) (f : List U → M U) : Sp := fun vs H Q _ => ∃ (B : Bn) (as : SA) (st : Sto) (us : List U) (u : U) (st' : Sto),
  BOk (ban ⟨G, B, H, as, noR⟩ [] as) H ∧ (fl as).Nodup ∧ (∀ a ∈ fl as, ¬ B a) ∧ StOk G (ban ⟨G, B, H, as, noR⟩ [] as) (rts as) as st H ∧ imAll G (rts as) (ban ⟨G, B, H, as, noR⟩ [] as) us vs H ∧ f us st = some (.ok u, st') ∧
  ∀ as' v H', Rt ⟨G, B, H, as, noR⟩ as' st' H' u v → Q v H'
def stD (N : List Str) (us : List U) : Dl := us.map (fun u => some (.im u)) ++ List.replicate (N.length - us.length) none
theorem SDo.start {F : Fr} {st : Sto} {N : List Str} {us : List U} {vs : List V} (ok : BOk (ban F [] F.as0) F.H0) (nd : (fl F.as0).Nodup) (nb : ∀ a ∈ fl F.as0, ¬ F.B a) (sto : StOk F.G (ban F [] F.as0) (rts F.as0) F.as0 st F.H0) (h : imAll F.G (rts F.as0) (ban F [] F.as0) us vs F.H0) :
    SDo F [] F.as0 st [] F.H0 (start N vs) (stD N us) := by
  have hl := imAll_len h
  refine ⟨fun p m => (nomatch m), Go.refl _ _, ok, by simpa [flo] using nd, by simp, fun a m => (nomatch (show a ∈ ([] : List Addr) from m)), fun a z => z.elim (fun m => nomatch (show a ∈ ([] : List Addr) from m)) (nb a), sto, ?_, fun i s e => ?_⟩
  · unfold L2.start stD
    rw [List.length_append, List.length_append, List.length_map, List.length_map, List.length_replicate, List.length_replicate, hl]
  · unfold stD at e
    by_cases hi : i < us.length
    · rw [List.getElem?_append_left (by rw [List.length_map]; exact hi), List.getElem?_map, List.getElem?_eq_getElem hi] at e
      have e2 : SV.im us[i] = s := by simpa using e
      obtain ⟨v, h1, h2⟩ := imAll_get h (List.getElem?_eq_getElem hi)
      subst e2
      refine ⟨v, ?_, h2⟩
      unfold L2.start
      rw [List.getElem?_append_left (by rw [List.length_map, hl]; exact hi), List.getElem?_map, h1]
      rfl
    · rw [List.getElem?_append_right (by rw [List.length_map]; omega), List.getElem?_replicate] at e
      split at e <;> simp at e
def dnil (N : List Str) : Dl := List.replicate N.length none
section
variable {P : Program} {w : World} {K : PySem.W.Frag} {mg : Str → Option Value} {bs : Heap} {CX : CXT} {x qu : Str} {pa : Arguments} {bo : List Stmt} {sc : Scope} {dv : List V} {kw : List (Str × V)} {f : Addr} {fd : FuncData}
theorem fn_ok {at_ : Str → Addr} {N ps : List Str} {k : Nat} {fM : List U → M U} (Fd : FunD K x qu pa bo sc dv kw f fd) (Sc : FnScope N ps sc)
    (hlen : ∀ us st r, fM us st = some r → us.length = ps.length)
    (hb : ∀ (cv : Value) (A : Around) (o : List Env) (s : Shared) (H : Hp) (E : XK), A.guards = some [] → Room k (A.deeper (envOfC qu sc s.heap.objs.size f cv)) →
      ∃ t, PSs (cxOf CX P w K mg bs N qu sc f cv A o s H E) bo t ∧ ∀ B H0 as0 us st r, fM us st = some r → ∃ wo : M (Out Unit Unit), fM us = fnM wo ∧ Blk ⟨⟨K, at_⟩, B, H0, as0, noR⟩ t (stD N us) wo (fun _ => dnil N) (fun _ => dnil N)) :
    FnG P w K mg bs CX (k + 1) f fd ps (spM ⟨K, at_⟩ fM) := by
  refine okG Fd Sc (fun vs H Q E h => ?_) fun cv A o s H vs Q E gd rm hsp => ?_
  · obtain ⟨B, as, st, us, u, st', _, _, _, _, hi, hf, _⟩ := h
    rw [imAll_len hi]
    exact hlen us st _ hf
  · obtain ⟨B, as, st, us, u, st', ok, nd, nb, sto, hi, hf, kk⟩ := hsp
    obtain ⟨t, ht, hB⟩ := hb cv A o s H E gd rm
    refine ⟨t, ht, ?_⟩
    obtain ⟨wo, e, bl⟩ := hB B H as us st _ hf
    rw [e] at hf
    obtain ⟨o', st1, q1, q⟩ := M.bind_inv hf
    refine bl _ [] as st [] _ H o' st1 (SDo.start (F := ⟨⟨K, at_⟩, B, H, as, noR⟩) ok nd nb sto hi) q1 ?_
    cases o' with
    | rt u' => cases q; exact fun as' v H' r => kk as' v H' r
    | nx _ => cases q; exact fun os as' σ H' S => kk as' _ H' (S.rt rfl trivial)
    | bk _ => cases q
    | ct _ => cases q
end
section
variable {α : Type}
def L0 (f : M U) : List U → M U
  | [] => f
  | _ => .fail
def L1 (f : U → M U) : List U → M U
  | [a] => f a
  | _ => .fail
def L2' (f : U → U → M U) : List U → M U
  | [a, b] => f a b
  | _ => .fail
def L3 (f : U → U → U → M U) : List U → M U
  | [a, b, c] => f a b c
  | _ => .fail
def L4 (f : U → U → U → U → M U) : List U → M U
  | [a, b, c, d] => f a b c d
  | _ => .fail
def L5 (f : U → U → U → U → U → M U) : List U → M U
  | [a, b, c, d, e] => f a b c d e
  | _ => .fail
def L6 (f : U → U → U → U → U → U → M U) : List U → M U
  | [a, b, c, d, e, g] => f a b c d e g
  | _ => .fail
def L7 (f : U → U → U → U → U → U → U → M U) : List U → M U
  | [a, b, c, d, e, g, h] => f a b c d e g h
  | _ => .fail
variable {P : List U → Prop}
theorem ar1 {f : U → M U} (h : ∀ a, P [a]) : ∀ us st r, L1 f us st = some r → P us
  | [a], _, _, _ => h a
  | [], _, _, e => nomatch e
  | _ :: _ :: _, _, _, e => nomatch e
theorem ar2 {f : U → U → M U} (h : ∀ a b, P [a, b]) : ∀ us st r, L2' f us st = some r → P us
  | [a, b], _, _, _ => h a b
  | [], _, _, e => nomatch e
  | [_], _, _, e => nomatch e
  | _ :: _ :: _ :: _, _, _, e => nomatch e
theorem ar3 {f : U → U → U → M U} (h : ∀ a b c, P [a, b, c]) : ∀ us st r, L3 f us st = some r → P us
  | [a, b, c], _, _, _ => h a b c
  | [], _, _, e => nomatch e
  | [_], _, _, e => nomatch e
  | [_, _], _, _, e => nomatch e
  | _ :: _ :: _ :: _ :: _, _, _, e => nomatch e
theorem ar6 {f : U → U → U → U → U → U → M U} (h : ∀ a b c d e g, P [a, b, c, d, e, g]) : ∀ us st r, L6 f us st = some r → P us
  | [a, b, c, d, e, g], _, _, _ => h a b c d e g
  | [], _, _, e => nomatch e
  | [_], _, _, e => nomatch e
  | [_, _], _, _, e => nomatch e
  | [_, _, _], _, _, e => nomatch e
  | [_, _, _, _], _, _, e => nomatch e
  | [_, _, _, _, _], _, _, e => nomatch e
  | _ :: _ :: _ :: _ :: _ :: _ :: _ :: _, _, _, e => nomatch e
theorem ar7 {f : U → U → U → U → U → U → U → M U} (h : ∀ a b c d e g i, P [a, b, c, d, e, g, i]) : ∀ us st r, L7 f us st = some r → P us
  | [a, b, c, d, e, g, i], _, _, _ => h a b c d e g i
  | [], _, _, e => nomatch e
  | [_], _, _, e => nomatch e
  | [_, _], _, _, e => nomatch e
  | [_, _, _], _, _, e => nomatch e
  | [_, _, _, _], _, _, e => nomatch e
  | [_, _, _, _, _], _, _, e => nomatch e
  | [_, _, _, _, _, _], _, _, e => nomatch e
  | _ :: _ :: _ :: _ :: _ :: _ :: _ :: _ :: _, _, _, e => nomatch e
end
section
variable {G : Cxt} {rs : List Addr} {B B' : Bn} {H : Hp}
end
def opq (st : Sto) : Sto := (List.range st.length).map fun i => U.loc i
def callM (f : List U → M U) (wa : M (List U)) : M U := .bind wa f
section
variable {F : Fr} {δ : Dl} {ta : TA} {wa : M (List U)} {E : XK} {f : List U → M U}
theorem SDo.enter {os : Os} {as : SA} {st : Sto} {γ : List (U × V)} {H : Hp} {σ : L2.St} (S : SDo F os as st γ H σ δ) : BOk (ban ⟨F.G, fun a => F.B a ∨ a ∈ flo os, H, as, noR⟩ [] as) H ∧ (∀ a ∈ fl as, ¬ (F.B a ∨ a ∈ flo os)) ∧ (∀ a, ban ⟨F.G, fun a => F.B a ∨ a ∈ flo os, H, as, noR⟩ [] as a ↔ ban F os as a) := by
  have e : ∀ a, ban ⟨F.G, fun a => F.B a ∨ a ∈ flo os, H, as, noR⟩ [] as a ↔ ban F os as a := fun a => by
    constructor
    · rintro ((h | h) | h | h)
      · exact .inl h
      · exact .inr (.inl h)
      · cases h
      · exact .inr (.inr h)
    · rintro (h | h | h)
      · exact .inl (.inl h)
      · exact .inl (.inr h)
      · exact .inr (.inr h)
  exact ⟨fun a b => S.ok a ((e a).mp b), fun a m z => z.elim (S.nb a (.inr m)) fun z => (List.nodup_append.mp S.nd).2.2 a z a m rfl, e⟩
theorem SDo.leave {os : Os} {as as' : SA} {st st' : Sto} {γ : List (U × V)} {H H' : Hp} {σ : L2.St} {u : U} {v : V} (S : SDo F os as st γ H σ δ) (r : Rt ⟨F.G, fun a => F.B a ∨ a ∈ flo os, H, as, noR⟩ as' st' H' u v) : SDo F os as' st' γ H' σ δ ∧ im F.G (rts as') (ban F os as') u v H' := by
  have e : ∀ a, ban F os as' a → ban ⟨F.G, fun a => F.B a ∨ a ∈ flo os, H, as, noR⟩ [] as' a := by
    rintro a (h | h | h)
    · exact .inl (.inl h)
    · exact .inl (.inr h)
    · exact .inr (.inr h)
  refine ⟨S.go r.rel r.nd (StOk.mono (fun _ _ h => im_sub (fun a _ b => e a b) _ _ h) (fun _ _ h => h) (fun _ _ => rfl) r.sto) fun a m => r.ok a (.inr (.inr m)), im_sub (fun a _ b => e a b) _ _ r.im⟩
theorem ev_call (h : EvAW F ta δ wa) : EvW F (tCall (spM F.G f) [] E ta) δ (callM f wa) := fun os as st γ σ H c st' S q QQ k => by
  obtain ⟨us, st1, qa, q⟩ := M.bind_inv q
  refine h os as st γ σ H us st1 S qa _ fun vs H1 as1 g1 S1 pv => ?_
  show spM F.G f (vs ++ []) H1 QQ E
  rw [List.append_nil]
  obtain ⟨ok, nb, e⟩ := S1.enter
  refine ⟨fun a => F.B a ∨ a ∈ flo os, as1, st1, us, c, st', ok, (List.nodup_append.mp S1.nd).2.1, nb, StOk.mono (fun _ _ h => im_sub (fun a _ b => (e a).mp b) _ _ h) (fun _ _ h => h) (fun _ _ => rfl) S1.sto, imAll_sub (fun a _ b => (e a).mp b) _ _ pv, q, fun as' v H' r => ?_⟩
  obtain ⟨S2, p⟩ := S1.leave r
  exact k v H' as' (g1.trans r.rel) S2 p
theorem StOk.opq {G : Cxt} {B : Bn} {H : Hp} (as : SA) (st : Sto) (h : as.length = st.length) : StOk G B (rts as) (as.map fun p => (p.1, [])) (opq st) H := by
  have key : ∀ (l : SA) (n m : Nat), l.length = m → (∀ i a, (rts l)[i]? = some a → (rts as)[n + i]? = some a) → StOk G B (rts as) (l.map fun p => (p.1, [])) ((List.range' n m).map fun i => U.loc i) H := by
    intro l
    induction l with
    | nil => intro n m e _; cases e; trivial
    | cons p l ih =>
      intro n m e hh
      cases m with
      | zero => cases e
      | succ m =>
        rw [List.range'_succ]
        refine ⟨⟨rfl, p.1, ?_, rfl⟩, ih (n + 1) m (by simpa using e) fun i a q => ?_⟩
        · have := hh 0 p.1 rfl
          simpa using this
        · have := hh (i + 1) a (by simpa [rts] using q)
          rw [show n + 1 + i = n + (i + 1) by omega]
          exact this
  have := key as 0 st.length h fun i a q => by rw [Nat.zero_add]; exact q
  rw [← List.range_eq_range'] at this
  exact this
theorem fl_opq (as : SA) : fl (as.map fun p => (p.1, ([] : List Addr))) = [] := by
  unfold fl
  rw [List.map_map]
  induction as with
  | nil => rfl
  | cons p as ih => rw [List.map_cons, List.flatten_cons, ih]; rfl
theorem rts_opq (as : SA) : rts (as.map fun p => (p.1, ([] : List Addr))) = rts as := by
  unfold rts
  rw [List.map_map]
  rfl
end
end UX

set_option Elab.async false
set_option linter.all false
set_option maxRecDepth 100000
set_option maxHeartbeats 4000000
set_option autoImplicit false
namespace UX
open PySem PySem.Spec PyProof.Rows L2
open EL (Ex RB BOk Bn TK rEqU rNeU rLtU iSeqU)
abbrev Hl := U × (U → U)
structure Hole (F : Fr) (os : Os) (as : SA) (i : Nat) (S : Sh) (σ : L2.St) (H : Hp) (s : Sh) (h : Hl) (v : V) : Prop where
  ex : ∃ A A1 A' A2 v0, (i, A) ∈ os ∧ σ[i]? = some (some v0) ∧ A = A1 ++ (A' ++ A2) ∧ ownD F.G (rts as) (ban F os as) s h.1 v H A' ∧
    ∀ rs2 B2 H2 u2 A'2, (∀ u v, im F.G (rts as) (ban F os as) u v H → im F.G rs2 B2 u v H2) → (∀ a xs, H a = some (.tup xs) → H2 a = some (.tup xs)) → (∀ a, a ∈ A1 ∨ a ∈ A2 → H2 a = H a) →
      ownD F.G rs2 B2 s u2 v H2 A'2 → ownD F.G rs2 B2 S (h.2 u2) v0 H2 (A1 ++ (A'2 ++ A2))
def EvH (F : Fr) (i : Nat) (S s : Sh) (te : TE) (δ : Dl) (w : M Hl) : Prop := ∀ os as st γ σ H h st', SDo F os as st γ H σ δ → w st = some (.ok h, st') → ∀ QQ : VK, (∀ v H' as', Go as as' H H' → SDo F os as' st' γ H' σ δ → Hole F os as' i S σ H' s h v → QQ v H') → te σ H QQ
section
variable {F : Fr} {os : Os} {as as' : SA} {st : Sto} {γ : List (U × V)} {i : Nat} {S s : Sh} {σ : L2.St} {H H' : Hp} {h : Hl} {v : V} {δ : Dl}
theorem Hole.go (hl : Hole F os as i S σ H s h v) (Q : SDo F os as st γ H σ δ) (g : Go as as' H H') : Hole F os as' i S σ H' s h v := by
  obtain ⟨A, A1, A', A2, v0, m, e0, eA, o, pl⟩ := hl.ex
  have al : ∀ a ∈ A, H a ≠ none := fun a z => Q.ok a (.inr (.inl (mem_flo m z)))
  have nf : ∀ a ∈ A, a ∉ fl as := fun a z q => (List.nodup_append.mp Q.nd).2.2 a (mem_flo m z) a q rfl
  have kp : ∀ a ∈ A, H' a = H a := fun a z => by
    cases e : H a with
    | none => exact absurd e (al a z)
    | some o => exact g.rb.keep a o (nf a z) e
  have inA : ∀ a ∈ A', a ∈ A := fun a z => by rw [eA]; exact List.mem_append_right _ (List.mem_append_left _ z)
  refine ⟨A, A1, A', A2, v0, m, e0, eA, own_go g o (fun a z => nf a (inA a z)) fun a z => al a (inA a z), fun rs2 B2 H2 u2 A'2 t1 t2 t3 o2 => ?_⟩
  exact pl rs2 B2 H2 u2 A'2 (fun u v z => t1 u v (im_go g z)) (fun a xs z => t2 a xs (sqT_go g z)) (fun a z => by rw [t3 a z, kp a (by rw [eA]; exact z.elim (fun z => List.mem_append_left _ z) fun z => List.mem_append_right _ (List.mem_append_right _ z))]) o2
theorem eh_slot {u : U} (hd : δ[i]? = some (some (.own S u))) : EvH F i S S (tVar i) δ (.ret (u, id)) := fun os as st γ σ H h st' Q q QQ k => by
  cases q
  obtain ⟨v, e, A, m, p⟩ := Q.get hd
  refine ⟨v, e, k v H as (Go.refl _ _) Q ⟨A, [], A, [], v, m, e, by simp, p, fun rs2 B2 H2 u2 A'2 _ _ _ o2 => by simpa using o2⟩⟩
def ixH (h : Hl) : U → Option Hl
  | .int n => match h.1 with
    | .lst us => match ixN us.length n with
      | some j => match us[j]? with
        | some u => some (u, fun x => h.2 (.lst (us.set j x)))
        | none => none
      | none => none
    | .tup us => match ixN us.length n with
      | some j => match us[j]? with
        | some u => some (u, fun x => h.2 (.tup (us.set j x)))
        | none => none
      | none => none
    | _ => none
  | _ => none
theorem ixN_eq {α : Type} {us : List α} {i : Int} {j : Nat} {x : α} (e : ixN us.length i = some j) (h : us[j]? = some x) : atI us i = some x := by
  unfold atI; rw [e]; exact h
end
end UX

set_option Elab.async false
set_option linter.all false
set_option maxRecDepth 100000
set_option maxHeartbeats 4000000
set_option autoImplicit false
namespace UX
open PySem PySem.Spec PyProof.Rows L2
open EL (Ex RB BOk Bn TK rEqU rNeU rLtU iSeqU)
def EvX (F : Fr) (i : Nat) (S : Sh) (te : TE) (δ : Dl) (w : M (U × U)) : Prop := ∀ os as st γ σ H a st', SDo F os as st γ H σ δ → w st = some (.ok a, st') → ∀ QQ : VK, (∀ v H' os' as', SDo F os' as' st' γ H' σ (δ.set i (some (.own S a.2))) → im F.G (rts as') (ban F os' as') a.1 v H' → QQ v H') → te σ H QQ
def MutL (F : Fr) (r : V → List V → Hp → VK → Prop) (f : List U → List U → Option (U × List U)) : Prop := ∀ os as H a vs us xs ws p, H a = some (.lst vs) → imAll F.G (rts as) (ban F os as) us vs H → imAll F.G (rts as) (ban F os as) xs ws H → f us xs = some p →
  ∃ v vs', imAll F.G (rts as) (ban F os as) p.2 vs' H ∧ im F.G (rts as) (ban F os as) p.1 v H ∧ ∀ Q : VK, Q v (upd H a (.lst vs')) → r (.ref a) ws H Q
def mutL (f : List U → List U → Option (U × List U)) (h : Hl) (xs : List U) : Option (U × U) := match h.1 with
  | .lst us => (f us xs).map fun p => (p.1, h.2 (.lst p.2))
  | _ => none
def appL : List U → List U → Option (U × List U)
  | us, [x] => if us.length < sizeLine then some (.non, us ++ [x]) else none
  | _, _ => none
def extL : List U → List U → Option (U × List U)
  | us, [.lst xs] => if us.length + xs.length ≤ sizeLine then some (.non, us ++ xs) else none
  | _, _ => none
section
variable {F : Fr} {S L : Type} {δ : Dl} {i j : Nat} {Sh0 : Sh} {te tp tv ty : TE} {ta : TA} {t2 : TS} {δn : S → Dl} {δl : L → Dl}
theorem im1 {G : Cxt} {rs : List Addr} {B : Bn} {H : Hp} {x : U} {ws : List V} (h : imAll G rs B [x] ws H) : ∃ y, ws = [y] ∧ im G rs B x y H := by
  obtain ⟨y, r, e, h1, h2⟩ := h
  cases (show r = [] from h2)
  exact ⟨y, e, h1⟩
theorem mut_app : MutL F rAppend appL := fun os as H a vs us xs ws p e h hx q => by
  rcases xs with _ | ⟨x, _ | ⟨x2, xs⟩⟩
  · cases q
  · obtain ⟨y, rfl, hy⟩ := im1 hx
    simp only [appL] at q
    split at q
    · rename_i hl
      cases q
      exact ⟨.non, vs ++ [y], imAll_snoc h hy, rfl, fun Q k => ⟨a, vs, y, rfl, rfl, e, by rw [imAll_len h]; exact hl, k⟩⟩
    · cases q
  · cases q
theorem mut_ext : MutL F rExtend extL := fun os as H a vs us xs ws p e h hx q => by
  rcases xs with _ | ⟨x, _ | ⟨x2, xs⟩⟩
  · cases q
  · obtain ⟨y, rfl, hy⟩ := im1 hx
    cases x with
    | lst xs =>
      obtain ⟨b, zs, rfl, _, hb, hz⟩ := hy
      simp only [extL] at q
      split at q
      · rename_i hl
        cases q
        exact ⟨.non, vs ++ zs, imAll_append h hz, rfl, fun Q k => ⟨a, b, vs, zs, rfl, rfl, e, hb, by rw [imAll_len h, imAll_len hz]; exact hl, k⟩⟩
      · cases q
    | _ => cases q
  · cases x <;> cases q
theorem Hole.setL {os : Os} {as : SA} {st : Sto} {γ : List (U × V)} {σ : L2.St} {H : Hp} {h : Hl} {v : V} {us us' : List U} (hl : Hole F os as i Sh0 σ H (.lst .leaf) h v) (Q : SDo F os as st γ H σ δ) (eu : h.1 = .lst us) :
    ∃ a vs, v = .ref a ∧ H a = some (.lst vs) ∧ imAll F.G (rts as) (ban F os as) us vs H ∧ ∀ vs', imAll F.G (rts as) (ban F os as) us' vs' H → ∃ A, SDo F os as st γ (upd H a (.lst vs')) σ (δ.set i (some (.own Sh0 (h.2 (.lst us'))))) ∧ Chg F os as H (upd H a (.lst vs')) i A A a ∧ setOs os i A = os := by
  obtain ⟨A, A1, A', A2, v0, m, e0, eA, o, pl⟩ := hl.ex
  rw [eu] at o
  obtain ⟨a, vs, e1, e2, e3, q⟩ := own_lst.mp o
  refine ⟨a, vs, e1, e3, q, fun vs' h' => ?_⟩
  have ma : a ∈ A := by rw [eA, e2]; exact List.mem_append_right _ List.mem_cons_self
  have c : Chg F os as H (upd H a (.lst vs')) i A A a := chg_same m ma Q e3 (fun _ z => nomatch z) (fun _ _ z => nomatch z)
  have so := setOs_same Q.ix m
  refine ⟨A, ?_, c, so⟩
  have nd := os_nodup os (List.nodup_append.mp Q.nd).1 m
  rw [eA, e2] at nd
  have := Q.mut c (x := some (.own Sh0 (h.2 (.lst us')))) fun s es => by
    cases es
    refine ⟨_, _, v0, rfl, e0, ?_⟩
    rw [so]
    have := pl (rts as) (ban F os as) (upd H a (.lst vs')) (.lst us') A' (fun u v z => by have := c.im z; rw [so] at this; exact this) (fun b xs z => c.rb.tup _ _ z) (fun b z => upd_ne fun e => ?_) (own_lst.mpr ⟨a, vs', e1, e2, upd_same, by have := c.imAll h'; rw [so] at this; exact this⟩)
    · rw [eA]; exact this
    · subst e
      have nd' := List.nodup_append.mp nd
      rcases z with z | z
      · exact nd'.2.2 b z b List.mem_cons_self rfl
      · exact (List.nodup_cons.mp nd'.2.1).1 z
  rw [so] at this
  exact this
theorem ex_mut {r : V → List V → Hp → VK → Prop} {f : List U → List U → Option (U × List U)} {wh : M Hl} {wa : M (List U)} (hm : MutL F r f) (h : EvH F i Sh0 (.lst .leaf) tp δ wh) (ha : EvAW F ta δ wa) :
    EvX F i Sh0 (tBM F.G.K "list" r tp ta) δ (.bind wh fun h => .bind wa fun xs => .o (mutL f h xs)) := fun os as st γ σ H c st' Q q QQ k => by
  obtain ⟨h1, st1, q1, q⟩ := M.bind_inv q
  obtain ⟨xs, st2, q2, q⟩ := M.bind_inv q
  obtain ⟨e, rfl⟩ := M.o_inv q
  refine h os as st γ σ H h1 st1 Q q1 _ fun x H1 as1 g1 S1 p1 => ⟨?_, ha os as1 st1 γ σ H1 xs _ S1 q2 _ fun ws H2 as2 g2 S2 p2 => ?_⟩
  · obtain ⟨A, A1, A', A2, v0, m, e0, eA, o, pl⟩ := p1.ex
    unfold mutL at e
    cases eu : h1.1 <;> rw [eu] at e <;> first | (cases e; done) | skip
    rw [eu] at o
    obtain ⟨a, vs, e1, e2, e3, q⟩ := own_lst.mp o
    rw [e1]
    exact .inl ⟨rfl, vs, EL.sqL_of e3⟩
  · have p1 := p1.go S1 g2
    unfold mutL at e
    cases eu : h1.1 <;> rw [eu] at e <;> first | (cases e; done) | skip
    rename_i us
    simp only at e
    obtain ⟨p, ep, ec⟩ := Option.map_eq_some_iff.mp e
    obtain ⟨a, vs, e1, e3, hv, fin⟩ := p1.setL (us' := p.2) S2 eu
    obtain ⟨v, vs', h1', h2', h3'⟩ := hm os as2 H2 a vs us xs ws p e3 hv p2 ep
    obtain ⟨A, S3, cg, so⟩ := fin vs' h1'
    rw [e1]
    refine h3' QQ (k v _ os as2 ?_ ?_)
    · rw [← ec]; exact S3
    · rw [← ec]
      have := cg.im h2'
      rw [so] at this
      exact this
theorem blk_x {w : M (U × U)} {k : U → M (Out S L)} (h : EvX F i Sh0 te δ w) (h2 : ∀ u, Blk F t2 (δ.set i (some (.own Sh0 u))) (k u) δn δl) : Blk F (tSeq (tDrop te) t2) δ (.bind w fun p => k p.2) δn δl := fun D os as st γ σ H o st' Q q P => by
  obtain ⟨p, st1, qp, q⟩ := M.bind_inv q
  exact h os as st γ σ H p _ Q qp _ fun v H1 os1 as1 S1 _ => h2 p.2 D os1 as1 st1 γ σ H1 o st' S1 q P
end
end UX

set_option Elab.async false
set_option linter.all false
set_option maxRecDepth 100000
set_option maxHeartbeats 4000000
set_option autoImplicit false
namespace UX
open PySem PySem.Spec PyProof.Rows L2
open EL (Ex RB BOk Bn TK rEqU rNeU rLtU iSeqU)
def leafU : U → Bool
  | .lst _ => false
  | .dct _ _ => false
  | .dcT _ _ => false
  | _ => true
def leafO (u : U) : Option U := if leafU u = true then some u else none
def flatO (u : U) : Option U := match u with
  | .lst us => if us.all leafU = true then some u else none
  | _ => none
section
variable {G : Cxt} {rs : List Addr} {B : Bn} {H : Hp}
theorem leaf_ownF {u : U} {v : V} {A : List Addr} (h : leafU u = true) : ownF G rs B u v H A ↔ A = [] ∧ im G rs B u v H := by
  cases u <;> first | (cases h; done) | exact Iff.rfl
theorem flat_ownFs : ∀ {us : List U} {vs : List V} {A : List Addr}, us.all leafU = true → (ownFs G rs B us vs H A ↔ A = [] ∧ imAll G rs B us vs H)
  | [], vs, A, _ => ⟨fun h => ⟨h.2, h.1⟩, fun h => ⟨h.2, h.1⟩⟩
  | u :: us, vs, A, h => by
    have h' := Bool.and_eq_true_iff.mp (show (leafU u && us.all leafU) = true from h)
    constructor
    · rintro ⟨v, r, A1, A2, e1, e2, h1, h2⟩
      obtain ⟨z1, q1⟩ := (leaf_ownF h'.1).mp h1
      obtain ⟨z2, q2⟩ := (flat_ownFs h'.2).mp h2
      exact ⟨by rw [e2, z1, z2]; rfl, v, r, e1, q1, q2⟩
    · rintro ⟨e, v, r, e1, h1, h2⟩
      exact ⟨v, r, [], [], e1, e, (leaf_ownF h'.1).mpr ⟨rfl, h1⟩, (flat_ownFs h'.2).mpr ⟨rfl, h2⟩⟩
end
def EvNF (F : Fr) (te : TE) (δ : Dl) (w : M U) : Prop := ∀ os as st γ σ H a st', SDo F os as st γ H σ δ → w st = some (.ok a, st') → ∀ QQ : VK, (∀ v H' as' A, Go as as' H H' → (∀ k, k ∉ os.map (·.1) → SDo F ((k, A) :: os) as' st' γ H' σ δ) → ownF F.G (rts as') (ban F ((0, A) :: os) as') a v H' A → (∀ a ∈ A, H a = none) → QQ v H') → te σ H QQ
def EvANF (F : Fr) (ta : TA) (δ : Dl) (w : M (List U)) : Prop := ∀ os as st γ σ H us st', SDo F os as st γ H σ δ → w st = some (.ok us, st') → ∀ QQ : List V → Hp → Prop, (∀ vs H' as' A, Go as as' H H' → (∀ k, k ∉ os.map (·.1) → SDo F ((k, A) :: os) as' st' γ H' σ δ) → ownFs F.G (rts as') (ban F ((0, A) :: os) as') us vs H' A → (∀ a ∈ A, H a = none) → QQ vs H') → ta σ H QQ
section
variable {F : Fr} {δ : Dl} {te : TE} {ta : TA} {w : M U} {wl : M (List U)}
theorem SDo.grow0 {os : Os} {as : SA} {st : Sto} {γ : List (U × V)} {H : Hp} {σ : L2.St} {k : Nat} (S : SDo F os as st γ H σ δ) (hk : k ∉ os.map (·.1)) : SDo F ((k, []) :: os) as st γ H σ δ := by
  refine ⟨S.gh, S.rel, S.ok, S.nd, List.nodup_cons.mpr ⟨hk, S.ix⟩, S.new, S.nb, S.sto, S.len, fun i s e => ?_⟩
  obtain ⟨v, h1, h2⟩ := S.at_ i s e
  refine ⟨v, h1, ?_⟩
  match s, h2 with
  | .im u, h2 => exact h2
  | .raw _, h2 => exact h2
  | .own sh u, ⟨A, m, h2⟩ => exact ⟨A, List.mem_cons_of_mem _ m, h2⟩
theorem enf_leaf (h : EvW F te δ w) : EvNF F te δ (.bind w fun u => .o (leafO u)) := fun os as st γ σ H c st' S q QQ k => by
  obtain ⟨u, st1, qu, q⟩ := M.bind_inv q
  obtain ⟨e, rfl⟩ := M.o_inv q
  unfold leafO at e
  by_cases hl : leafU u = true
  · rw [if_pos hl] at e
    cases e
    exact h os as st γ σ H _ _ S qu _ fun v H1 as1 g1 S1 p => k v H1 as1 [] g1 (fun k hk => S1.grow0 hk) ((leaf_ownF hl).mpr ⟨rfl, p⟩) (fun a m => nomatch m)
  · rw [if_neg hl] at e; cases e
theorem enf_flat (h : EvN F (.lst .leaf) te δ w) : EvNF F te δ (.bind w fun u => .o (flatO u)) := fun os as st γ σ H c st' S q QQ k => by
  obtain ⟨u, st1, qu, q⟩ := M.bind_inv q
  obtain ⟨e, rfl⟩ := M.o_inv q
  refine h os as st γ σ H u _ S qu _ fun v H1 as1 A g1 S1 p n => ?_
  cases u with
  | lst us => ?_
  | _ => cases e
  simp only [flatO] at e
  by_cases hl : us.all leafU = true
  · rw [if_pos hl] at e
    cases e
    obtain ⟨a, vs, e1, e2, h1, q⟩ := own_lst.mp p
    exact k v H1 as1 A g1 S1 ⟨a, vs, [], e1, e2, h1, (flat_ownFs hl).mpr ⟨rfl, q⟩⟩ n
  · rw [if_neg hl] at e; cases e
theorem eanf_nil : EvANF F tNil δ nilA := fun os as st γ σ H us st' S q QQ k => by
  cases q
  exact k [] H as [] (Go.refl _ _) (fun k hk => S.grow0 hk) ⟨rfl, rfl⟩ (fun a m => nomatch m)
theorem SDo.merge {os : Os} {as : SA} {st : Sto} {γ : List (U × V)} {H : Hp} {σ : L2.St} {k1 k2 k : Nat} {A1 A2 : List Addr} (S : SDo F ((k2, A2) :: (k1, A1) :: os) as st γ H σ δ) (h1 : δ.length ≤ k1) (h2 : δ.length ≤ k2) (hk : k ∉ os.map (·.1)) : SDo F ((k, A1 ++ A2) :: os) as st γ H σ δ := by
  have bb : ∀ a, ban F ((k, A1 ++ A2) :: os) as a ↔ ban F ((k2, A2) :: (k1, A1) :: os) as a := fun a => by
    rw [ban_cons, ban_cons, ban_cons, List.mem_append]
    constructor
    · rintro ((h | h) | h)
      · exact .inr (.inl h)
      · exact .inl h
      · exact .inr (.inr h)
    · rintro (h | h | h)
      · exact .inl (.inr h)
      · exact .inl (.inl h)
      · exact .inr h
  have up : ∀ u v, im F.G (rts as) (ban F ((k2, A2) :: (k1, A1) :: os) as) u v H → im F.G (rts as) (ban F ((k, A1 ++ A2) :: os) as) u v H := fun u v h => im_sub (fun a _ b => (bb a).mp b) _ _ h
  have fm : ∀ a, a ∈ flo ((k, A1 ++ A2) :: os) → a ∈ flo ((k2, A2) :: (k1, A1) :: os) := fun a m => by
    rw [flo_cons, List.mem_append, List.mem_append] at m
    rw [flo_cons, flo_cons, List.mem_append, List.mem_append]
    rcases m with (m | m) | m
    · exact .inr (.inl m)
    · exact .inl m
    · exact .inr (.inr m)
  refine ⟨fun p m => up _ _ (S.gh p m), S.rel, fun a b => S.ok a ((bb a).mp b), ?_, List.nodup_cons.mpr ⟨hk, (List.nodup_cons.mp (List.nodup_cons.mp S.ix).2).2⟩, fun a m => S.new a (fm a m), fun a z => S.nb a (z.imp (fm a) id), StOk.mono up (fun _ _ h => h) (fun _ _ => rfl) S.sto, S.len, fun i s e => ?_⟩
  · have nd : (A2 ++ (A1 ++ flo os) ++ fl as).Nodup := S.nd
    show (A1 ++ A2 ++ flo os ++ fl as).Nodup
    have pm : (A1 ++ A2 ++ flo os ++ fl as).Perm (A2 ++ (A1 ++ flo os) ++ fl as) := by
      rw [← List.append_assoc A2]
      exact ((List.perm_append_comm (l₁ := A1) (l₂ := A2)).append_right (flo os)).append_right (fl as)
    exact pm.nodup_iff.mpr nd
  · obtain ⟨v, q1, q2⟩ := S.at_ i s e
    refine ⟨v, q1, ?_⟩
    match s, q2 with
    | .im u, q2 => exact up _ _ q2
    | .raw _, q2 => exact q2
    | .own sh u, ⟨A, m, q2⟩ =>
      refine ⟨A, List.mem_cons_of_mem _ ?_, own_mono up (fun _ _ h => h) _ _ _ _ (fun _ _ => rfl) q2⟩
      have il := getElem?_lt e
      rcases List.mem_cons.mp m with z | m
      · have : i = k2 := (Prod.mk.inj z).1
        omega
      · rcases List.mem_cons.mp m with z | m
        · have : i = k1 := (Prod.mk.inj z).1
          omega
        · exact m
theorem eanf_cons {tr : TA} {wr : M (List U)} (h : EvNF F te δ w) (hr : EvANF F tr δ wr) : EvANF F (tCons te tr) δ (consA w wr) := fun os as st γ σ H us st' S q QQ k => by
  obtain ⟨a, st1, qa, q⟩ := M.bind_inv q
  obtain ⟨r, st2, qr, q⟩ := M.bind_inv q
  cases q
  refine h os as st γ σ H a _ S qa _ fun x H1 as1 A1 g1 S1 p1 n1 => ?_
  obtain ⟨k1, hk1, hl1⟩ := nodup_fresh (os.map (·.1)) δ.length
  refine hr _ as1 st1 γ σ H1 r _ (S1 k1 hk1) qr _ fun vs H2 as2 A2 g2 S2 p2 n2 => ?_
  obtain ⟨k2, hk2, hl2⟩ := nodup_fresh (((k1, A1) :: os).map (·.1)) δ.length
  refine k (x :: vs) H2 as2 (A1 ++ A2) (g1.trans g2) (fun k hk => (S2 k2 hk2).merge hl1 hl2 hk) ⟨x, vs, A1, A2, rfl, rfl, ?_, ?_⟩ fun a m => ?_
  · have S3 := S2 k2 hk2
    have al : ∀ a ∈ A1, H1 a ≠ none := fun a m => (S1 k1 hk1).ok a (.inr (.inl (List.mem_append_left _ m)))
    refine ownF_mono (fun u v z => ?_) _ _ _ (fun a m => ?_) p1
    · have z1 : im F.G (rts as1) (ban F ((k2, A2) :: (k1, A1) :: os) as1) u v H1 := im_sub (sub_cons n2) _ _ z
      have z2 := im_go (os := (k2, A2) :: (k1, A1) :: os) g2 z1
      refine im_sub (fun a _ b => ?_) _ _ z2
      rw [ban_cons, List.mem_append] at b
      rw [ban_cons, ban_cons]
      rcases b with (h | h) | h
      · exact .inr (.inl h)
      · exact .inl h
      · exact .inr (.inr h)
    · cases e : H1 a with
      | none => exact absurd e (al a m)
      | some o => exact g2.rb.keep a o (fun q => (List.nodup_append.mp (S1 k1 hk1).nd).2.2 a (List.mem_append_left _ m) a q rfl) e
  · refine ownFs_mono (fun u v z => im_sub (fun a _ b => ?_) _ _ z) _ _ _ (fun _ _ => rfl) p2
    rw [ban_cons, List.mem_append] at b
    rw [ban_cons, ban_cons]
    rcases b with (h | h) | h
    · exact .inr (.inl h)
    · exact .inl h
    · exact .inr (.inr h)
  · rcases List.mem_append.mp m with z | z
    · exact n1 a z
    · exact g1.fresh (n2 a z)
theorem enf_lst (h : EvANF F ta δ wl) : EvNF F (tLst ta) δ (lstW wl) := fun os as st γ σ H c st' S q QQ k => by
  obtain ⟨us, st1, qa, q⟩ := M.bind_inv q
  obtain ⟨e, rfl⟩ := M.o_inv q
  by_cases hl : us.length ≤ sizeLine
  · rw [if_pos hl] at e
    cases e
    refine h os as st γ σ H us _ S qa _ fun vs H1 as1 A g1 S1 pv n => ⟨by rw [ownFs_len pv]; exact hl, fun p hp => ?_⟩
    obtain ⟨k1, hk1, hl1⟩ := nodup_fresh (os.map (·.1)) δ.length
    obtain ⟨k2, hk2, hl2⟩ := nodup_fresh (((k1, A) :: os).map (·.1)) δ.length
    have S2 := (S1 k1 hk1).grow hk2 hp (Ex.new (o := .lst vs) hp) (by rw [upd_same]; exact fun z => nomatch z)
    have npA : ∀ a ∈ A, a ≠ p := fun a m z => by
      have := (S1 k1 hk1).ok a (.inr (.inl (List.mem_append_left _ m)))
      rw [z] at this; exact this hp
    have bb : ∀ a, ban F ((0, p :: A) :: os) as1 a → ban F ((k2, [p]) :: (k1, A) :: os) as1 a := fun a b => by
      rw [ban_cons, List.mem_cons] at b
      rw [ban_cons, ban_cons, List.mem_singleton]
      rcases b with (h | h) | h
      · exact .inl h
      · exact .inr (.inl h)
      · exact .inr (.inr h)
    refine k (.ref p) _ as1 (p :: A) (g1.trans (Go.of_ex (Ex.new hp))) (fun k hk => ?_) ⟨p, vs, A, rfl, rfl, upd_same, ?_⟩ fun a m => ?_
    · have := S2.merge (k := k) hl1 hl2 hk
      have pm : ∀ a, a ∈ A ++ [p] ↔ a ∈ p :: A := fun a => by rw [List.mem_append, List.mem_singleton, List.mem_cons]; exact Or.comm
      have cm : ∀ a, ban F ((k, p :: A) :: os) as1 a → ban F ((k, A ++ [p]) :: os) as1 a := fun a b => by
        rw [ban_cons] at b ⊢
        exact b.imp (pm a).mpr id
      have up : ∀ u v, im F.G (rts as1) (ban F ((k, A ++ [p]) :: os) as1) u v (upd H1 p (.lst vs)) → im F.G (rts as1) (ban F ((k, p :: A) :: os) as1) u v (upd H1 p (.lst vs)) := fun u v h => im_sub (fun a _ b => cm a b) _ _ h
      refine ⟨fun q m => up _ _ (this.gh q m), this.rel, fun a b => this.ok a (cm a b), ?_, this.ix, fun a m => this.new a ?_, fun a z => this.nb a (z.imp (fun m => ?_) id), StOk.mono up (fun _ _ h => h) (fun _ _ => rfl) this.sto, this.len, fun i s e => ?_⟩
      · have nd := this.nd
        have pp : ((p :: A) ++ flo os ++ fl as1).Perm ((A ++ [p]) ++ flo os ++ fl as1) := ((List.perm_append_comm (l₁ := [p]) (l₂ := A)).append_right (flo os)).append_right (fl as1)
        exact pp.nodup_iff.mpr nd
      · rw [flo_cons, List.mem_append] at m ⊢
        exact m.imp (pm a).mpr id
      · rw [flo_cons, List.mem_append] at m ⊢
        exact m.imp (pm a).mpr id
      · obtain ⟨v, q1, q2⟩ := this.at_ i s e
        refine ⟨v, q1, ?_⟩
        match s, q2 with
        | .im u, q2 => exact up _ _ q2
        | .raw _, q2 => exact q2
        | .own sh u, ⟨C, m, q2⟩ =>
          rcases List.mem_cons.mp m with z | m
          · have il := getElem?_lt e
            have m1 := S2.at_ i _ e
            obtain ⟨v', _, C', m', q'⟩ := m1
            rcases List.mem_cons.mp m' with z' | m'
            · have : i = k2 := (Prod.mk.inj z').1
              omega
            · rcases List.mem_cons.mp m' with z' | m'
              · have : i = k1 := (Prod.mk.inj z').1
                omega
              · exact absurd (List.mem_map_of_mem (f := (·.1)) m') (by rw [show (i, C').1 = k from (Prod.mk.inj z).1]; exact hk)
          · exact ⟨C, List.mem_cons_of_mem _ m, own_mono up (fun _ _ h => h) _ _ _ _ (fun _ _ => rfl) q2⟩
    · refine ownFs_mono (fun u v z => ?_) _ _ _ (fun a m => upd_ne (npA a m)) pv
      have z1 : im F.G (rts as1) (ban F ((k2, [p]) :: (k1, A) :: os) as1) u v H1 := im_sub (sub_cons fun a m => by rw [List.mem_singleton] at m; rw [m]; exact hp) _ _ z
      exact im_sub (fun a _ b => bb a b) _ _ (im_st (RB.of_ex (Ex.new hp)) _ _ z1)
    · rcases List.mem_cons.mp m with z | z
      · rw [z]; exact g1.fresh hp
      · exact n a z
  · rw [if_neg hl] at e; cases e
def allocM (u : U) : M U := fun st => some (.ok (.loc st.length), st ++ [u])
theorem StOk.snoc {G : Cxt} {B : Bn} {rs : List Addr} {H : Hp} {p : Addr × List Addr} {u : U} (h : ownC G rs B u (.ref p.1) H p.2) : ∀ {as : SA} {st : Sto}, StOk G B rs as st H → StOk G B rs (as ++ [p]) (st ++ [u]) H
  | [], [], _ => ⟨h, trivial⟩
  | _ :: _, _ :: _, ⟨h1, h2⟩ => ⟨h1, StOk.snoc h h2⟩
theorem ownC_of {G : Cxt} {rs : List Addr} {B : Bn} {H : Hp} {u : U} {v : V} {A : List Addr} (hu : ∀ c ns us, u ≠ .obj c ns us) (h : ownF G rs B u v H A) : ownC G rs B u v H A := by
  cases u <;> first | exact h | exact absurd rfl (hu _ _ _)
def lstO (u : U) : Option U := match u with
  | .lst _ => some u
  | _ => none
theorem blk_retC {S L : Type} {δn : S → Dl} {δl : L → Dl} (h : EvNF F te δ w) (hR : F.R = noR := by rfl) : Blk F (tRet te) δ (rtO (.bind w fun u => .bind (.o (lstO u)) allocM) : M (Out S L)) δn δl := fun D os as st γ σ H o st' Q q P => by
  obtain ⟨l, st1, ql, q⟩ := M.bind_inv q
  obtain ⟨u, st2, qu, ql2⟩ := M.bind_inv ql
  obtain ⟨u', st3, qx, ql3⟩ := M.bind_inv ql2
  obtain ⟨eu, rfl⟩ := M.o_inv qx
  clear ql ql2
  cases ql3; cases q
  refine h os as st γ σ H u _ Q qu _ fun v H1 as1 A g1 S1 p n => ?_
  cases u with
  | lst us => ?_
  | _ => cases eu
  cases eu
  obtain ⟨a, vs, A', e1, e2, e3, q⟩ := id p
  obtain ⟨k1, hk1, hl1⟩ := nodup_fresh (os.map (·.1)) δ.length
  have S2 := S1 k1 hk1
  have fle : fl (as1 ++ [(a, A)]) = fl as1 ++ A := by simp [fl]
  have rle : rts (as1 ++ [(a, A)]) = rts as1 ++ [a] := by simp [rts]
  have bb : ∀ b, ban F [] (as1 ++ [(a, A)]) b → ban F ((k1, A) :: os) as1 b := fun b z => by
    rw [ban_cons]
    rcases z with z | z | z
    · exact .inr (.inl z)
    · cases z
    · rw [fle, List.mem_append] at z
      exact z.elim (fun z => .inr (.inr (.inr z))) .inl
  have rsx : ∀ (i : Nat) (b : Addr), (rts as1)[i]? = some b → (rts (as1 ++ [(a, A)]))[i]? = some b := fun i b e => by
    rw [rle, List.getElem?_append_left (getElem?_lt e)]; exact e
  have up : ∀ u v, im F.G (rts as1) (ban F ((k1, A) :: os) as1) u v H1 → im F.G (rts (as1 ++ [(a, A)])) (ban F [] (as1 ++ [(a, A)])) u v H1 := fun u v h => im_sub (fun b _ z => bb b z) _ _ (im_rs rsx _ _ h)
  have nd : (A ++ (flo os ++ fl as1)).Nodup := by rw [← List.append_assoc]; exact S2.nd
  refine P (as1 ++ [(a, A)]) v H1 ⟨⟨S2.rel.rb, fun i b e => rsx i b (S2.rel.pre i b e), fun b m => ?_⟩, fun b z => S2.ok b (bb b z), ?_, fun b m => ?_, ?_, ?_, by rw [hR]; trivial⟩
  · rw [fle, List.mem_append] at m
    rcases m with m | m
    · exact S2.rel.new b m
    · exact .inr (S2.new b (List.mem_append_left _ m))
  · rw [fle]
    have nd' := List.nodup_append.mp nd
    exact List.nodup_append.mpr ⟨(List.nodup_append.mp nd'.2.1).2.1, nd'.1, fun b m c m' e => by subst e; exact nd'.2.2 b m' b (List.mem_append_right _ m) rfl⟩
  · rw [fle, List.mem_append] at m
    exact m.elim (fun m => S2.nb b (.inr m)) fun m => S2.nb b (.inl (List.mem_append_left _ m))
  · refine StOk.snoc (ownC_of (fun c ns us z => by cases z) ?_) (StOk.mono up (fun _ _ h => h) (fun _ _ => rfl) S2.sto)
    rw [← e1]
    exact ownF_mono up _ _ _ (fun _ _ => rfl) p
  · refine ⟨a, ?_, e1⟩
    rw [rle]
    have le : (rts as1).length = st3.length := (by unfold rts; rw [List.length_map]; exact S2.sto.len)
    rw [← le, List.getElem?_append_right (Nat.le_refl _), Nat.sub_self]
    rfl
end
end UX

set_option Elab.async false
set_option linter.all false
set_option maxRecDepth 100000
set_option maxHeartbeats 4000000
set_option autoImplicit false
namespace UX
open PySem PySem.Spec PyProof.Rows L2
open EL (Ex RB BOk Bn TK rEqU rNeU rLtU iSeqU)
def ownR (G : Cxt) (rs : List Addr) (B : Bn) : Bool → U → V → Hp → List Addr → Prop
  | true => ownC G rs B
  | false => ownF G rs B
structure HoleC (F : Fr) (os : Os) (as : SA) (H : Hp) (r : Bool) (i : Nat) (h : Hl) (v : V) : Prop where
  ex : ∃ a A A1 A' A2, as[i]? = some (a, A) ∧ A = A1 ++ (A' ++ A2) ∧ ownR F.G (rts as) (ban F os as) r h.1 v H A' ∧
    ∀ rs2 B2 H2 u2 A'2, (∀ u v, im F.G (rts as) (ban F os as) u v H → im F.G rs2 B2 u v H2) → (∀ a, a ∈ A1 ∨ a ∈ A2 → H2 a = H a) →
      ownR F.G rs2 B2 r u2 v H2 A'2 → ownC F.G rs2 B2 (h.2 u2) (.ref a) H2 (A1 ++ (A'2 ++ A2))
abbrev Cl := Nat × Hl
def EvC (F : Fr) (r : Bool) (te : TE) (δ : Dl) (w : M Cl) : Prop := ∀ os as st γ σ H c st', SDo F os as st γ H σ δ → w st = some (.ok c, st') → ∀ QQ : VK, (∀ v H' as', Go as as' H H' → SDo F os as' st' γ H' σ δ → HoleC F os as' H' r c.1 c.2 v → QQ v H') → te σ H QQ
def EvQ (F : Fr) (te : TE) (δ : Dl) (w : M U) : Prop := ∀ os as st γ σ H a st', SDo F os as st γ H σ δ → w st = some (.ok a, st') → st' = st ∧ ∀ QQ : VK, (∀ v, im F.G (rts as) (ban F os as) a v H → QQ v H) → te σ H QQ
def locM (u : U) : M Cl := fun st => match u with
  | .loc i => match st[i]? with
    | some x => some (.ok (i, (x, id)), st)
    | none => none
  | _ => none
section
variable {F : Fr} {os : Os} {as : SA} {st : Sto} {γ : List (U × V)} {H : Hp} {σ : L2.St} {δ : Dl}
theorem StOk.get {G : Cxt} {B : Bn} {rs : List Addr} : ∀ {as : SA} {st : Sto} {i : Nat} {p : Addr × List Addr} {u : U}, StOk G B rs as st H → as[i]? = some p → st[i]? = some u → ownC G rs B u (.ref p.1) H p.2
  | p :: as, s :: st, 0, _, _, ⟨h1, _⟩, e1, e2 => by simp at e1 e2; subst e1 e2; exact h1
  | p :: as, s :: st, i + 1, _, _, ⟨_, h2⟩, e1, e2 => StOk.get (i := i) h2 (by simpa using e1) (by simpa using e2)
  | [], [], _, _, _, _, e, _ => by simp at e
theorem ec_loc {te : TE} {w : M U} (h : EvW F te δ w) : EvC F true te δ (.bind w locM) := fun os as st γ σ H c st' S q QQ k => by
  obtain ⟨u, st1, qu, q⟩ := M.bind_inv q
  refine h os as st γ σ H u _ S qu _ fun v H1 as1 g1 S1 p => ?_
  cases u with
  | loc i => ?_
  | _ => cases q
  obtain ⟨a, ea, ev⟩ := p
  cases es : st1[i]? with
  | none => simp only [locM, es] at q; cases q
  | some x =>
    simp only [locM, es] at q
    cases q
    obtain ⟨⟨a', A⟩, e1, e2⟩ : ∃ p, as1[i]? = some p ∧ p.1 = a := by
      unfold rts at ea
      rw [List.getElem?_map] at ea
      obtain ⟨p, h1, h2⟩ := Option.map_eq_some_iff.mp ea
      exact ⟨p, h1, h2⟩
    simp only at e2
    subst e2
    have := S1.sto.get e1 es
    rw [← ev] at this
    exact k v H1 as1 g1 S1 ⟨a', A, [], A, [], e1, by simp, this, fun rs2 B2 H2 u2 A'2 _ _ o2 => by rw [← ev]; have o2 : ownC F.G rs2 B2 u2 v H2 A'2 := o2; simpa using o2⟩
theorem eq_int {i : Int} : EvQ F (tC (.int i)) δ (.ret (.int i)) := fun os as st γ σ H a st' S q => by
  cases q; exact ⟨rfl, fun QQ k => k _ rfl⟩
theorem eq_var {i : Nat} {u : U} (h : δ[i]? = some (some (.im u))) : EvQ F (tVar i) δ (.ret u) := fun os as st γ σ H a st' S q => by
  cases q
  obtain ⟨v, e, p⟩ := S.get h
  exact ⟨rfl, fun QQ k => ⟨v, e, k v p⟩⟩
theorem eq_neg {ta : TE} {wa : M U} (h : EvQ F ta δ wa) : EvQ F (tUn (rU fun i => .int (-i)) ta) δ (op1 negU wa) := fun os as st γ σ H c st' S q => by
  obtain ⟨a, st1, qa, q⟩ := M.bind_inv q
  obtain ⟨e, rfl⟩ := M.o_inv q
  obtain ⟨e1, hh⟩ := h os as st γ σ H a _ S qa
  refine ⟨e1, fun QQ k => hh _ fun x px => ?_⟩
  cases a <;> simp [negU] at e
  subst e
  exact ⟨_, px, k _ rfl⟩
def ixC (c : Cl) (n : U) : Option Cl := match c.2.1 with
  | .lst _ => (ixH c.2 n).map fun h => (c.1, h)
  | _ => none
theorem ec_ix {r : Bool} {te ti : TE} {w : M Cl} {wi : M U} (h : EvC F r te δ w) (hi : EvQ F ti δ wi) : EvC F false (tOp (rIx F.G.K) te ti) δ (.bind w fun c => .bind wi fun n => .o (ixC c n)) := fun os as st γ σ H c st' S q QQ k => by
  obtain ⟨c1, st1, q1, q⟩ := M.bind_inv q
  obtain ⟨n, st2, q2, q⟩ := M.bind_inv q
  obtain ⟨e, rfl⟩ := M.o_inv q
  refine h os as st γ σ H c1 st1 S q1 _ fun x H1 as1 g1 S1 p1 => ?_
  obtain ⟨rfl, hq⟩ := hi os as1 st1 γ σ H1 n _ S1 q2
  refine hq _ fun y py => ?_
  obtain ⟨a, A, A1, A', A2, e0, eA, o, pl⟩ := p1.ex
  obtain ⟨i, u1, f1⟩ := c1
  cases u1 with
  | lst us =>
    cases n with
    | int n => ?_
    | _ => cases e
    have o : ownF F.G (rts as1) (ban F os as1) (.lst us) x H1 A' := by cases r <;> exact o
    obtain ⟨b, vs, B, e1, e2, e3, z⟩ := o
    simp only [ixC, ixH] at e
    cases ej : ixN us.length n with
    | none => rw [ej] at e; cases e
    | some j =>
      rw [ej] at e
      simp only at e
      cases eu : us[j]? with
      | none => rw [eu] at e; cases e
      | some u =>
        rw [eu] at e
        simp only [Option.map_some] at e
        cases e
        obtain ⟨v, B1, B', B2, f1', f2, f3, f4⟩ := ownFs_split z eu
        refine .inl ⟨b, vs, n, v, e1, py, .inl (.inl e3), ixN_eq (by rw [ownFs_len z]; exact ej) f1', ?_⟩
        refine k v H1 as1 g1 S1 ⟨a, A, A1 ++ b :: B1, B', B2 ++ A2, e0, by rw [eA, e2, f2]; simp, f3, fun rs2 B2' H3 u2 A'2 t1 t3 o2 => ?_⟩
        have := pl rs2 B2' H3 (.lst (us.set j u2)) (b :: (B1 ++ (A'2 ++ B2))) t1 (fun b z => t3 b (z.imp (fun z => List.mem_append_left _ z) fun z => List.mem_append_right _ z)) (by
          have : ownF F.G rs2 B2' (.lst (us.set j u2)) x H3 (b :: (B1 ++ (A'2 ++ B2))) := ⟨b, vs, B1 ++ (A'2 ++ B2), e1, rfl, by rw [t3 b (.inl (List.mem_append_right _ List.mem_cons_self))]; exact e3, f4 rs2 B2' H3 u2 A'2 t1 (fun b z => t3 b (z.imp (fun z => List.mem_append_right _ (List.mem_cons_of_mem _ z)) fun z => List.mem_append_left _ z)) o2⟩
          cases r <;> exact this)
        simpa using this
  | _ => cases e
def valC (c : Cl) : Option U := leafO c.2.1
theorem ev_cell {r : Bool} {te : TE} {w : M Cl} (h : EvC F false te δ w) : EvW F te δ (.bind w fun c => .o (valC c)) := fun os as st γ σ H c st' S q QQ k => by
  obtain ⟨c1, st1, q1, q⟩ := M.bind_inv q
  obtain ⟨e, rfl⟩ := M.o_inv q
  refine h os as st γ σ H c1 _ S q1 _ fun x H1 as1 g1 S1 p1 => ?_
  obtain ⟨a, A, A1, A', A2, e0, eA, o, pl⟩ := p1.ex
  unfold valC leafO at e
  by_cases hl : leafU c1.2.1 = true
  · rw [if_pos hl] at e
    cases e
    exact k x H1 as1 g1 S1 ((leaf_ownF hl).mp o).2
  · rw [if_neg hl] at e; cases e
def putC (i : Nat) (u : U) : M Unit := fun st => if i < st.length then some (.ok (), st.set i u) else none
theorem StOk.upd {G : Cxt} {B : Bn} {rs : List Addr} {H H' : Hp} {a : Addr} (hk : ∀ u v, im G rs B u v H → im G rs B u v H') (ht : ∀ a xs, H a = some (.tup xs) → H' a = some (.tup xs)) : ∀ {as : SA} {st : Sto} {i : Nat} {p : Addr × List Addr} {u : U}, (fl as).Nodup → StOk G B rs as st H → as[i]? = some p → a ∈ p.2 → (∀ b, b ≠ a → H' b = H b) → ownC G rs B u (.ref p.1) H' p.2 → StOk G B rs as (st.set i u) H'
  | q :: as, s :: st, 0, p, u, nd, ⟨h1, h2⟩, e, ma, kp, o => by
    simp at e; subst e
    have nd' := List.nodup_append.mp (show (q.2 ++ fl as).Nodup from nd)
    exact ⟨o, StOk.mono hk ht (fun b m => kp b fun z => nd'.2.2 a ma b m z.symm) h2⟩
  | q :: as, s :: st, i + 1, p, u, nd, ⟨h1, h2⟩, e, ma, kp, o => by
    have nd' := List.nodup_append.mp (show (q.2 ++ fl as).Nodup from nd)
    have e' : as[i]? = some p := by simpa using e
    exact ⟨ownC_mono hk _ _ _ (fun b m => kp b fun z => nd'.2.2 b m a (mem_fl (List.mem_of_getElem? e') ma) z) h1, StOk.upd hk ht nd'.2.1 h2 e' ma kp o⟩
  | [], [], _, _, _, _, _, e, _, _, _ => by simp at e
theorem SDo.cell (S : SDo F os as st γ H σ δ) {i : Nat} {a b : Addr} {A : List Addr} {vs vs' : List V} {u : U} (e0 : as[i]? = some (a, A)) (mb : b ∈ A) (e : H b = some (.lst vs)) (o : ownC F.G (rts as) (ban F os as) u (.ref a) (upd H b (.lst vs')) A) :
    SDo F os as (st.set i u) γ (upd H b (.lst vs')) σ δ ∧ Go as as H (upd H b (.lst vs')) ∧ ∀ u v, im F.G (rts as) (ban F os as) u v H → im F.G (rts as) (ban F os as) u v (upd H b (.lst vs')) := by
  have mf : b ∈ fl as := mem_fl (List.mem_of_getElem? e0) mb
  have rb : RB (· ∈ fl as) H (upd H b (.lst vs')) := by
    refine ⟨fun c o n h => by rw [upd_ne (fun (z : c = b) => n (by rw [z]; exact mf))]; exact h, fun c xs h => by rw [upd_ne (ne_of h e (by intro z; cases z))]; exact h, fun c o x h => by rw [upd_ne (ne_of h e (by intro z; cases z))]; exact h, fun c _ n => ?_⟩
    by_cases z : c = b
    · rw [z, upd_same]; exact fun q => nomatch q
    · rw [upd_ne z]; exact n
  have g : Go as as H (upd H b (.lst vs')) := ⟨rb, fun _ _ h => h, fun _ h => .inl h⟩
  have hk : ∀ u v, im F.G (rts as) (ban F os as) u v H → im F.G (rts as) (ban F os as) u v (upd H b (.lst vs')) := fun u v h => im_go g h
  have nd := (List.nodup_append.mp S.nd).2.1
  refine ⟨S.go g nd (StOk.upd hk (fun c xs h => rb.tup c xs h) nd S.sto e0 mb (fun c n => upd_ne n) o) fun c m => g.alive (S.ok c (.inr (.inr m))), g, hk⟩
def setItC (c : Cl) (n x : U) : Option Cl := match c.2.1, n with
  | .lst us, .int n => if leafU x = true then match ixN us.length n with
    | some j => match us[j]? with
      | some o => if leafU o = true then some (c.1, (c.2.2 (.lst (us.set j x)), id)) else none
      | none => none
    | none => none else none
  | _, _ => none
theorem StOk.lt {G : Cxt} {B : Bn} {rs : List Addr} {i : Nat} {p : Addr × List Addr} (h : StOk G B rs as st H) (e : as[i]? = some p) : i < st.length := by
  have := getElem?_lt e
  rw [h.len] at this
  exact this
theorem ownFs_set {G : Cxt} {rs rs2 : List Addr} {B B2 : Bn} {H H2 : Hp} {x w : U} {xv : V} (hx : leafU x = true) (hw : leafU w = true) (px : im G rs2 B2 x xv H2) (t : ∀ u v, im G rs B u v H → im G rs2 B2 u v H2) : ∀ {us : List U} {vs : List V} {A : List Addr} {j : Nat}, us[j]? = some w → (∀ c ∈ A, H2 c = H c) → ownFs G rs B us vs H A → ownFs G rs2 B2 (us.set j x) (vs.set j xv) H2 A
  | [], _, _, _, e, _, _ => by simp at e
  | u :: us, _, A, 0, e, k, ⟨v, r, A1, A2, e1, e2, h1, h2⟩ => by
    simp at e; subst e e1
    obtain ⟨z, _⟩ := (leaf_ownF hw).mp h1
    subst z
    exact ⟨xv, r, [], A2, rfl, e2, (leaf_ownF hx).mpr ⟨rfl, px⟩, ownFs_mono t us r A2 (fun c m => k c (by rw [e2]; exact m)) h2⟩
  | u :: us, _, A, j + 1, e, k, ⟨v, r, A1, A2, e1, e2, h1, h2⟩ => by
    subst e1
    exact ⟨v, r.set j xv, A1, A2, rfl, e2, ownF_mono t u v A1 (fun c m => k c (by rw [e2]; exact List.mem_append_left _ m)) h1, ownFs_set hx hw px t (j := j) (by simpa using e) (fun c m => k c (by rw [e2]; exact List.mem_append_right _ m)) h2⟩
theorem imAll_map {G : Cxt} {rs rs2 : List Addr} {B B2 : Bn} {H H2 : Hp} (t : ∀ u v, im G rs B u v H → im G rs2 B2 u v H2) : ∀ {us : List U} {vs : List V}, imAll G rs B us vs H → imAll G rs2 B2 us vs H2
  | [], _, h => h
  | u :: us, _, ⟨v, w, e, h1, h2⟩ => ⟨v, w, e, t _ _ h1, imAll_map t h2⟩
theorem sa_nodup {a : Addr} {A : List Addr} : ∀ (l : SA) (i : Nat), (fl l).Nodup → l[i]? = some (a, A) → A.Nodup := by
  intro l
  induction l with
  | nil => intro i _ e; simp at e
  | cons p l ih =>
    intro i nd e
    have nd' := List.nodup_append.mp (show (p.2 ++ fl l).Nodup from nd)
    cases i with
    | zero => simp at e; rw [show A = p.2 by rw [e]]; exact nd'.1
    | succ i => exact ih i nd'.2.1 (by simpa using e)
theorem HoleC.setL {r : Bool} {i : Nat} {us us' : List U} {f : U → U} {cv : V} (p : HoleC F os as H r i (.lst us, f) cv) (S : SDo F os as st γ H σ δ) :
    ∃ b vs B, cv = .ref b ∧ H b = some (.lst vs) ∧ ownFs F.G (rts as) (ban F os as) us vs H B ∧ b ∉ B ∧ i < st.length ∧ ∀ vs', (∀ H2, (∀ u v, im F.G (rts as) (ban F os as) u v H → im F.G (rts as) (ban F os as) u v H2) → (∀ c ∈ B, H2 c = H c) → ownFs F.G (rts as) (ban F os as) us' vs' H2 B) → SDo F os as (st.set i (f (.lst us'))) γ (upd H b (.lst vs')) σ δ := by
  obtain ⟨a, A, A1, A', A2, e0, eA, ow, pl⟩ := p.ex
  have ow : ownF F.G (rts as) (ban F os as) (.lst us) cv H A' := by cases r <;> exact ow
  obtain ⟨b, vs, B, e1, e2, e3, z⟩ := ow
  have mb : b ∈ A := by rw [eA, e2]; exact List.mem_append_right _ List.mem_cons_self
  have nd := sa_nodup as i (List.nodup_append.mp S.nd).2.1 e0
  rw [eA, e2] at nd
  have nd1 := List.nodup_append.mp nd
  have nd2 := List.nodup_cons.mp nd1.2.1
  have nB : b ∉ B := fun m => nd2.1 (List.mem_append_left _ m)
  refine ⟨b, vs, B, e1, e3, z, nB, S.sto.lt e0, fun vs' hv => ?_⟩
  have mf : b ∈ fl as := mem_fl (List.mem_of_getElem? e0) mb
  have rb : RB (· ∈ fl as) H (L2.upd H b (.lst vs')) := by
    refine ⟨fun c o n h => by rw [upd_ne (fun (z : c = b) => n (by rw [z]; exact mf))]; exact h, fun c xs h => by rw [upd_ne (ne_of h e3 (by intro z; cases z))]; exact h, fun c o x h => by rw [upd_ne (ne_of h e3 (by intro z; cases z))]; exact h, fun c _ n => ?_⟩
    by_cases z : c = b
    · rw [z, upd_same]; exact fun q => nomatch q
    · rw [upd_ne z]; exact n
  have g : Go as as H (L2.upd H b (.lst vs')) := ⟨rb, fun _ _ h => h, fun _ h => .inl h⟩
  refine (S.cell e0 mb e3 (vs' := vs') ?_).1
  have := pl (rts as) (ban F os as) (L2.upd H b (.lst vs')) (.lst us') A' (fun u v h => im_go g h) (fun c z => upd_ne fun e => ?_) (by
    have : ownF F.G (rts as) (ban F os as) (.lst us') cv (L2.upd H b (.lst vs')) A' := ⟨b, vs', B, e1, e2, upd_same, hv _ (fun u v h => im_go g h) fun c m => upd_ne fun e => nB (by rw [← e]; exact m)⟩
    cases r <;> exact this)
  · rw [eA]; exact this
  · subst e
    rcases z with z | z
    · exact nd1.2.2 c z c List.mem_cons_self rfl
    · exact nd2.1 (List.mem_append_right _ z)
theorem blk_setC {S L : Type} {δn : S → Dl} {δl : L → Dl} {r : Bool} {te to ti : TE} {t2 : TS} {we wi : M U} {wc : M Cl} {k : M (Out S L)} (he : EvW F te δ we) (hc : EvC F r to δ wc) (hi : EvQ F ti δ wi) (h2 : Blk F t2 δ k δn δl) :
    Blk F (tSeq (tAsg te (gSub to ti rSetL)) t2) δ (.bind we fun x => .bind wc fun c => .bind wi fun n => .bind (.o (setItC c n x)) fun d => .bind (putC d.1 d.2.1) fun _ => k) δn δl := fun D os as st γ σ H o st' Q q P => by
  obtain ⟨x, st1, q1, q⟩ := M.bind_inv q
  obtain ⟨c, st2, q2, q⟩ := M.bind_inv q
  obtain ⟨n, st3, q3, q⟩ := M.bind_inv q
  obtain ⟨d, st4, q4, q⟩ := M.bind_inv q
  obtain ⟨_, st5, q5, q⟩ := M.bind_inv q
  obtain ⟨ed, rfl⟩ := M.o_inv q4
  refine he os as st γ σ H x st1 Q q1 _ fun xv H1 as1 g1 S1 px => hc os as1 st1 γ σ H1 c st2 S1 q2 _ fun cv H2 as2 g2 S2 p2 => ?_
  obtain ⟨rfl, hq⟩ := hi os as2 st2 γ σ H2 n _ S2 q3
  refine hq _ fun y py => ?_
  have px := im_go g2 px
  obtain ⟨i, u1, f1⟩ := c
  cases u1 with
  | lst us =>
    cases n with
    | int n => ?_
    | _ => cases ed
    simp only [setItC] at ed
    by_cases hl : leafU x = true
    · rw [if_pos hl] at ed
      cases ej : ixN us.length n with
      | none => rw [ej] at ed; cases ed
      | some j =>
        rw [ej] at ed
        simp only at ed
        cases eo : us[j]? with
        | none => rw [eo] at ed; cases ed
        | some w =>
          rw [eo] at ed
          simp only at ed
          by_cases hw : leafU w = true
          · rw [if_pos hw] at ed
            cases ed
            obtain ⟨b, vs, B, e1, e3, z, nB, lt, fin⟩ := p2.setL (us' := us.set j x) S2
            unfold putC at q5
            simp only [lt, if_true] at q5
            cases q5
            refine ⟨b, vs, n, j, e1, py, e3, by rw [ownFs_len z]; exact ej, h2 D os as2 _ γ σ _ o st' (fin _ fun H3 t kp => ownFs_set hl hw (t _ _ px) t eo kp z) q P⟩
          · rw [if_neg hw] at ed; cases ed
    · rw [if_neg hl] at ed; cases ed
  | _ => cases ed
def mutC (f : List U → List U → Option (U × List U)) (c : Cl) (xs : List U) : Option (U × Cl) := match c.2.1 with
  | .lst us => if us.all leafU = true ∧ xs.all leafU = true then match f us xs with
    | some p => if p.2.all leafU = true then some (p.1, (c.1, (c.2.2 (.lst p.2), id))) else none
    | none => none else none
  | _ => none
theorem blk_mutC {S L : Type} {δn : S → Dl} {δl : L → Dl} {r : Bool} {to ti : TE} {t2 : TS} {wi : M U} {wc : M Cl} {k : M (Out S L)} {rr : V → List V → Hp → VK → Prop} {f : List U → List U → Option (U × List U)} (hm : MutL F rr f) (hc : EvC F r to δ wc) (hi : EvQ F ti δ wi) (h2 : Blk F t2 δ k δn δl) :
    Blk F (tSeq (tDrop (tBM F.G.K "list" rr to (tCons ti tNil))) t2) δ (.bind wc fun c => .bind wi fun n => .bind (.o (mutC f c [n])) fun d => .bind (putC d.2.1 d.2.2.1) fun _ => k) δn δl := fun D os as st γ σ H o st' Q q P => by
  obtain ⟨c, st2, q2, q⟩ := M.bind_inv q
  obtain ⟨n, st3, q3, q⟩ := M.bind_inv q
  obtain ⟨d, st4, q4, q⟩ := M.bind_inv q
  obtain ⟨_, st5, q5, q⟩ := M.bind_inv q
  obtain ⟨ed, rfl⟩ := M.o_inv q4
  refine hc os as st γ σ H c st2 Q q2 _ fun cv H2 as2 g2 S2 p2 => ?_
  obtain ⟨rfl, hq⟩ := hi os as2 st2 γ σ H2 n _ S2 q3
  obtain ⟨i, u1, f1⟩ := c
  cases u1 with
  | lst us =>
    simp only [mutC] at ed
    by_cases hl : us.all leafU = true ∧ [n].all leafU = true
    · rw [if_pos hl] at ed
      cases ef : f us [n] with
      | none => rw [ef] at ed; cases ed
      | some p =>
        rw [ef] at ed
        simp only at ed
        by_cases hp : p.2.all leafU = true
        · rw [if_pos hp] at ed
          cases ed
          obtain ⟨b, vs, B, e1, e3, z, nB, lt, fin⟩ := p2.setL (us' := p.2) S2
          unfold putC at q5
          simp only [lt, if_true] at q5
          cases q5
          obtain ⟨zB, hv⟩ := (flat_ownFs hl.1).mp z
          subst e1 zB
          refine ⟨.inl ⟨rfl, vs, EL.sqL_of e3⟩, hq _ fun y py => ?_⟩
          obtain ⟨v, vs', h1, h2', h3⟩ := hm os as2 H2 b vs us [n] [y] p e3 hv ⟨y, [], rfl, py, rfl⟩ ef
          exact h3 _ (h2 D os as2 _ γ σ _ o st' (fin vs' fun H3 t kp => (flat_ownFs hp).mpr ⟨rfl, imAll_map t h1⟩) q P)
        · rw [if_neg hp] at ed; cases ed
    · rw [if_neg hl] at ed; cases ed
  | _ => cases ed
mutual
theorem ownF_im0 : ∀ (u : U) (v : V) (A : List Addr), ownF F.G (rts as) (ban F os as) u v H A → im F.G (rts as) noB u v H
  | .lst us, v, A, ⟨a, vs, A', e1, e2, h, q⟩ => ⟨a, vs, e1, fun z => z, h, ownFs_im0 us vs A' q⟩
  | .dct ks us, v, A, ⟨a, vs, A', e1, e2, h, l, q⟩ => ⟨a, vs, e1, fun z => z, .inl h, l, ownFs_im0 us vs A' q⟩
  | .dcT ks us, v, A, ⟨a, vs, A', e1, e2, h, l, q⟩ => ⟨a, vs, e1, fun z => z, .inl h, l, ownFs_im0 us vs A' q⟩
  | .non, v, A, h => sub0 h.2
  | .bl _, v, A, h => sub0 h.2
  | .int _, v, A, h => sub0 h.2
  | .str _, v, A, h => sub0 h.2
  | .tup _, v, A, h => sub0 h.2
  | .obj _ _ _, v, A, h => sub0 h.2
  | .dcN _ _, v, A, h => sub0 h.2
  | .top _, v, A, h => sub0 h.2
  | .frl _, v, A, h => sub0 h.2
  | .loc _, v, A, h => sub0 h.2
theorem ownFs_im0 : ∀ (us : List U) (vs : List V) (A : List Addr), ownFs F.G (rts as) (ban F os as) us vs H A → imAll F.G (rts as) noB us vs H
  | [], _, _, h => h.1
  | u :: us, _, A, ⟨v, r, A1, A2, e1, e2, h1, h2⟩ => ⟨v, r, e1, ownF_im0 u v A1 h1, ownFs_im0 us r A2 h2⟩
end
theorem ownR_im0 {r : Bool} {u : U} {v : V} {A : List Addr} (h : ownR F.G (rts as) (ban F os as) r u v H A) : im F.G (rts as) noB u v H := by
  cases r with
  | false => exact ownF_im0 u v A h
  | true =>
    cases u with
    | obj c ns us => obtain ⟨a, dx, vs, A', e1, e2, h, l, q⟩ := h; exact ⟨a, dx, vs, e1, fun z => z, h, l, ownFs_im0 us vs A' q⟩
    | _ => exact ownF_im0 _ v A h
end
end UX

set_option Elab.async false
set_option linter.all false
set_option maxRecDepth 100000
set_option maxHeartbeats 4000000
set_option autoImplicit false
namespace UX
open PySem PySem.Spec PyProof.Rows L2
open EL (Ex RB BOk Bn TK FnG okG)
section
variable {P : Program} {w : World} {K : PySem.W.Frag} {mg : Str → Option Value} {bs : Heap} {CX : CXT} {x qu : Str} {pa : Arguments} {bo : List Stmt} {sc : Scope} {dv : List V} {kw : List (Str × V)} {f : Addr} {fd : FuncData}
theorem fn_okF {at_ : Str → Addr} {N ps : List Str} {k : Nat} {fM : List U → M U} (Fd : FunD K x qu pa bo sc dv kw f fd) (Sc : FnScope N ps sc)
    (hlen : ∀ us st r, fM us st = some r → us.length = ps.length)
    (hb : ∀ (cv : Value) (A : Around) (o : List Env) (s : Shared) (H : Hp) (E : XK), Room k (A.deeper (envOfC qu sc s.heap.objs.size f cv)) →
      ∃ t, PSs (cxOf CX P w K mg bs N qu sc f cv A o s H E) bo t ∧ ∀ B H0 as0 us st r, fM us st = some r → ∃ wo : M (Out Unit Unit), fM us = fnM wo ∧ Blk ⟨⟨K, at_⟩, B, H0, as0, noR⟩ t (stD N us) wo (fun _ => dnil N) (fun _ => dnil N)) :
    FnOk P w K mg bs CX (k + 1) f fd ps (spM ⟨K, at_⟩ fM) := by
  refine Fd.ok Sc (fun vs H Q E h => ?_) fun cv A o s H vs Q E rm hsp => ?_
  · obtain ⟨B, as, st, us, u, st', _, _, _, _, hi, hf, _⟩ := h
    rw [imAll_len hi]
    exact hlen us st _ hf
  · obtain ⟨B, as, st, us, u, st', ok, nd, nb, sto, hi, hf, kk⟩ := hsp
    obtain ⟨t, ht, hB⟩ := hb cv A o s H E rm
    refine ⟨t, ht, ?_⟩
    obtain ⟨wo, e, bl⟩ := hB B H as us st _ hf
    rw [e] at hf
    obtain ⟨o', st1, q1, q⟩ := M.bind_inv hf
    refine bl _ [] as st [] _ H o' st1 (SDo.start (F := ⟨⟨K, at_⟩, B, H, as, noR⟩) ok nd nb sto hi) q1 ?_
    cases o' with
    | rt u' => cases q; exact fun as' v H' r => kk as' v H' r
    | nx _ => cases q; exact fun os as' σ H' S => kk as' _ H' (S.rt rfl trivial)
    | bk _ => cases q
    | ct _ => cases q
end
def lookF (f : Str) : List Str → List U → Option U
  | n :: ns, u :: us => if n = f then some u else lookF f ns us
  | _, _ => none
def fldU (cs : List Str) (f : Str) : U → Option U
  | .obj c ns us => if c ∈ cs then lookF f ns us else none
  | _ => none
theorem look_zip {G : Cxt} {rs : List Addr} {B : Bn} {H : Hp} {f : Str} : ∀ {ns : List Str} {us : List U} {vs : List V} {u : U}, imAll G rs B us vs H → lookF f ns us = some u → ∃ v, (ns.zip vs).lookup f = some v ∧ im G rs B u v H
  | n :: ns, u :: us, _, u', ⟨v, r, e, h1, h2⟩, el => by
    subst e
    unfold lookF at el
    by_cases z : n = f
    · rw [if_pos z] at el
      cases el
      refine ⟨v, ?_, h1⟩
      rw [List.zip_cons_cons, List.lookup_cons, z]
      simp
    · rw [if_neg z] at el
      obtain ⟨v', e1, e2⟩ := look_zip h2 el
      refine ⟨v', ?_, e2⟩
      rw [List.zip_cons_cons, List.lookup_cons]
      have : (f == n) = false := by simpa using fun q => z q.symm
      rw [this]
      exact e1
  | [], _, _, _, _, el => by cases el
  | _ :: _, [], _, _, _, el => by cases el
section
variable {F : Fr} {δ : Dl} {te ta : TE} {w : M U}
theorem ev_fld {cs : List Str} {f : Str} (hc : ∀ c ∈ cs, Cls F.G.K (F.G.at_ c) ∧ NoAttr F.G.K (F.G.at_ c) f) (h : EvR F ta δ w) : EvW F (tFld F.G.K ta f) δ (op1 (fldU cs f) w) := fun os as st γ σ H c st' S q QQ k => by
  obtain ⟨u, st1, qu, q⟩ := M.bind_inv q
  obtain ⟨e, rfl⟩ := M.o_inv q
  refine h os as st γ σ H u _ S qu _ fun v H1 as1 g1 S1 p => ?_
  cases u with
  | obj c0 ns us => ?_
  | _ => cases e
  simp only [fldU] at e
  by_cases hm : c0 ∈ cs
  · rw [if_pos hm] at e
    obtain ⟨a, dx, vs, e1, _, e3, l, hv⟩ := p
    obtain ⟨x, e4, e5⟩ := look_zip hv e
    exact ⟨a, F.G.at_ c0, dx, _, x, e1, e3, (hc c0 hm).1, (hc c0 hm).2, e4, k x H1 as1 g1 S1 e5⟩
  · rw [if_neg hm] at e; cases e
def isObj (c m : Str) : U → Option U
  | .obj c' ns us => if c' = c ∧ lookF m ns us = none ∧ ns.length = us.length then some (.obj c' ns us) else none
  | _ => none
theorem look_none {m : Str} : ∀ {ns : List Str} {us : List U} {vs : List V}, ns.length = us.length → vs.length = us.length → lookF m ns us = none → (ns.zip vs).lookup m = none
  | [], _, _, _, _, _ => rfl
  | n :: ns, [], _, l, _, _ => by cases l
  | n :: ns, u :: us, [], _, l, _ => by cases l
  | n :: ns, u :: us, v :: vs, l1, l2, e => by
    unfold lookF at e
    by_cases z : n = m
    · rw [if_pos z] at e; cases e
    · rw [if_neg z] at e
      rw [List.zip_cons_cons, List.lookup_cons]
      have : (m == n) = false := by simpa using fun q => z q.symm
      rw [this]
      exact look_none (by simpa using l1) (by simpa using l2) e
def methM (c m : Str) (f : List U → M U) (wo : M U) (wa : M (List U)) : M U := .bind wo fun o => .bind (.o (isObj c m o)) fun _ => .bind wa fun us => f (o :: us)
theorem ev_meth {c m : Str} {E : XK} {f : List U → M U} {t : TA} {wa : M (List U)} (ho : EvW F ta δ w) (ha : EvAW F t δ wa) : EvW F (tMeth (F.G.at_ c) m (spM F.G f) [] E ta t) δ (methM c m f w wa) := fun os as st γ σ H r st' S q QQ k => by
  obtain ⟨o, st1, qo, q1⟩ := M.bind_inv q
  obtain ⟨o2, st2, qi, q2⟩ := M.bind_inv q1
  obtain ⟨us, st3, qa, q3⟩ := M.bind_inv q2
  obtain ⟨ei, rfl⟩ := M.o_inv qi
  clear q q1 q2
  have q := q3
  clear q3
  refine ho os as st γ σ H o _ S qo _ fun x H1 as1 g1 S1 px => ?_
  cases o with
  | obj c' ns vs0 => ?_
  | _ => cases ei
  simp only [isObj] at ei
  split at ei
  case isFalse => cases ei
  rename_i hc
  obtain ⟨a, dx, vs, e1, nb, e3, l, hv⟩ := id px
  refine ⟨a, dx, _, e1, by rw [← hc.1]; exact e3, look_none l (imAll_len hv) hc.2.1, ?_⟩
  refine ha os as1 st2 γ σ H1 us st3 S1 qa _ fun vs2 H2 as2 g2 S2 pv => ?_
  rw [List.append_nil]
  obtain ⟨ok, nb2, e⟩ := S2.enter
  refine ⟨fun a => F.B a ∨ a ∈ flo os, as2, st3, _ :: us, r, st', ok, (List.nodup_append.mp S2.nd).2.1, nb2, StOk.mono (fun _ _ h => im_sub (fun a _ b => (e a).mp b) _ _ h) (fun _ _ h => h) (fun _ _ => rfl) S2.sto, ⟨x, vs2, rfl, im_sub (fun a _ b => (e a).mp b) _ _ (im_go g2 px), imAll_sub (fun a _ b => (e a).mp b) _ _ pv⟩, q, fun as' v H' rr => ?_⟩
  obtain ⟨S3, p⟩ := S2.leave rr
  exact k v H' as' ((g1.trans g2).trans rr.rel) S3 p
end
end UX

set_option Elab.async false
set_option linter.all false
set_option maxRecDepth 100000
set_option maxHeartbeats 4000000
set_option autoImplicit false
namespace UX
open PySem PySem.Spec PyProof.Rows L2
open EL (Ex RB BOk Bn TK FnG okG)
mutual
def nlU : U → Bool
  | .tup us => nlA us
  | .lst us => nlA us
  | .dct _ us => nlA us
  | .dcT _ us => nlA us
  | .dcN ks us => nlA ks && nlA us
  | .obj _ _ us => nlA us
  | .frl us => nlA us
  | .loc _ => false
  | _ => true
def nlA : List U → Bool
  | [] => true
  | u :: us => nlU u && nlA us
end
section
variable {G : Cxt} {rs rs' : List Addr} {B : Bn} {H : Hp}
mutual
theorem im_nl : ∀ (u : U) (v : V), nlU u = true → im G rs B u v H → im G rs' B u v H
  | .non, _, _, h => h
  | .bl _, _, _, h => h
  | .int _, _, _, h => h
  | .str _, _, _, h => h
  | .tup us, _, p, ⟨a, vs, e, t, q⟩ => ⟨a, vs, e, t, imAll_nl us vs p q⟩
  | .lst us, _, p, ⟨a, vs, e, n, t, q⟩ => ⟨a, vs, e, n, t, imAll_nl us vs p q⟩
  | .dct ks us, _, p, ⟨a, vs, e, n, t, l, q⟩ => ⟨a, vs, e, n, t, l, imAll_nl us vs p q⟩
  | .dcT ks us, _, p, ⟨a, vs, e, n, t, l, q⟩ => ⟨a, vs, e, n, t, l, imAll_nl us vs p q⟩
  | .dcN ks us, _, p, ⟨a, vs, e, n, t, l, q1, q⟩ => ⟨a, vs, e, n, t, l, imAll_nl ks _ (Bool.and_eq_true_iff.mp p).1 q1, imAll_nl us _ (Bool.and_eq_true_iff.mp p).2 q⟩
  | .obj c ns us, _, p, ⟨a, dx, vs, e, n, t, l, q⟩ => ⟨a, dx, vs, e, n, t, l, imAll_nl us vs p q⟩
  | .top _, _, _, h => h
  | .frl us, _, p, ⟨a, vs, e, t, q⟩ => ⟨a, vs, e, t, imAll_nl us vs p q⟩
  | .loc _, _, p, _ => nomatch p
theorem imAll_nl : ∀ (us : List U) (vs : List V), nlA us = true → imAll G rs B us vs H → imAll G rs' B us vs H
  | [], _, _, h => h
  | u :: us, _, p, ⟨v, w, e, h1, h2⟩ => ⟨v, w, e, im_nl u v (Bool.and_eq_true_iff.mp p).1 h1, imAll_nl us w (Bool.and_eq_true_iff.mp p).2 h2⟩
end
mutual
/-- what is wholly owned, given away -/
theorem ownF_im : ∀ (u : U) (v : V) (A : List Addr), (∀ a ∈ A, ¬ B a) → ownF G rs B u v H A → im G rs B u v H
  | .lst us, v, A, n, ⟨a, vs, A', e1, e2, h, q⟩ => ⟨a, vs, e1, n a (by rw [e2]; exact List.mem_cons_self), h, ownFs_im us vs A' (fun b m => n b (by rw [e2]; exact List.mem_cons_of_mem _ m)) q⟩
  | .dct ks us, v, A, n, ⟨a, vs, A', e1, e2, h, l, q⟩ => ⟨a, vs, e1, n a (by rw [e2]; exact List.mem_cons_self), .inl h, l, ownFs_im us vs A' (fun b m => n b (by rw [e2]; exact List.mem_cons_of_mem _ m)) q⟩
  | .dcT ks us, v, A, n, ⟨a, vs, A', e1, e2, h, l, q⟩ => ⟨a, vs, e1, n a (by rw [e2]; exact List.mem_cons_self), .inl h, l, ownFs_im us vs A' (fun b m => n b (by rw [e2]; exact List.mem_cons_of_mem _ m)) q⟩
  | .non, v, A, _, h => h.2
  | .bl _, v, A, _, h => h.2
  | .int _, v, A, _, h => h.2
  | .str _, v, A, _, h => h.2
  | .tup _, v, A, _, h => h.2
  | .obj _ _ _, v, A, _, h => h.2
  | .dcN _ _, v, A, _, h => h.2
  | .top _, v, A, _, h => h.2
  | .frl _, v, A, _, h => h.2
  | .loc _, v, A, _, h => h.2
theorem ownFs_im : ∀ (us : List U) (vs : List V) (A : List Addr), (∀ a ∈ A, ¬ B a) → ownFs G rs B us vs H A → imAll G rs B us vs H
  | [], _, _, _, h => h.1
  | u :: us, _, A, n, ⟨v, r, A1, A2, e1, e2, h1, h2⟩ => ⟨v, r, e1, ownF_im u v A1 (fun b m => n b (by rw [e2]; exact List.mem_append_left _ m)) h1, ownFs_im us r A2 (fun b m => n b (by rw [e2]; exact List.mem_append_right _ m)) h2⟩
end
theorem ownC_im {u : U} {v : V} {A : List Addr} (n : ∀ a ∈ A, ¬ B a) (h : ownC G rs B u v H A) : im G rs B u v H := by
  cases u with
  | obj c ns us => obtain ⟨a, dx, vs, A', e1, e2, h, l, q⟩ := h; exact ⟨a, dx, vs, e1, n a (by rw [e2]; exact List.mem_cons_self), h, l, ownFs_im us vs A' (fun b m => n b (by rw [e2]; exact List.mem_cons_of_mem _ m)) q⟩
  | _ => exact ownF_im _ v A n h
end
def mkM (c : Str) (f : List U → M U) (wa : M (List U)) : M U := .bind wa fun us st => match f (.loc st.length :: us) (opq st ++ [.obj c [] []]) with
  | some (.ok .non, st') => match st'[st.length]? with
    | some u => if nlU u = true then some (.ok u, st) else none
    | none => none
  | _ => none
section
variable {F : Fr} {δ : Dl} {ta : TA} {wa : M (List U)} {E : XK} {f : List U → M U} {c : Str}
theorem ev_make (h : EvAW F ta δ wa) : EvW F (tMake (F.G.at_ c) (spM F.G f) [] E ta) δ (mkM c f wa) := fun os as st γ σ H r st' S q QQ k => by
  obtain ⟨us, st1, qa, q1⟩ := M.bind_inv q
  clear q
  refine h os as st γ σ H us st1 S qa _ fun vs H1 as1 g1 S1 pv x dx hx hdx ne => ?_
  rw [List.append_nil]
  cases e : f (.loc st1.length :: us) (opq st1 ++ [.obj c [] []]) with
  | none => rw [e] at q1; cases q1
  | some p =>
    rw [e] at q1
    match p, e, q1 with
    | (.ok .non, st2), e, q1 =>
      simp only at q1
      cases eu : st2[st1.length]? with
      | none => rw [eu] at q1; cases q1
      | some u =>
        rw [eu] at q1
        simp only at q1
        by_cases hn : nlU u = true
        · rw [if_pos hn] at q1
          obtain ⟨rfl, rfl⟩ : u = r ∧ st1 = st' := by cases q1; exact ⟨rfl, rfl⟩
          have hH : Ex H1 (upd (upd H1 dx (.own x)) x (.ins (F.G.at_ c) dx [])) := (Ex.new hdx).trans (Ex.new (by rw [upd_ne ne.symm]; exact hx))
          have fle : fl ((as1.map fun p => (p.1, [])) ++ [(x, [x])]) = [x] := by
            have := fl_opq as1
            unfold fl at this ⊢
            rw [List.map_append, List.flatten_append, this]
            rfl
          have rle : rts ((as1.map fun p => (p.1, [])) ++ [(x, [x])]) = rts as1 ++ [x] := by
            have := rts_opq as1
            unfold rts at this ⊢
            rw [List.map_append, this]
            rfl
          have rlen : (rts as1).length = st1.length := by unfold rts; rw [List.length_map]; exact S1.sto.len
          have rsx : ∀ (i : Nat) (b : Addr), (rts as1)[i]? = some b → (rts as1 ++ [x])[i]? = some b := fun i b e => by
            rw [List.getElem?_append_left (getElem?_lt e)]; exact e
          have ab : ∀ (H0 : Hp) (as0 : SA) a, ban ⟨F.G, ban F os as1, H0, as0, noR⟩ [] ((as1.map fun p => (p.1, [])) ++ [(x, [x])]) a → ban F os as1 a ∨ a = x := by
            rintro H0 as0 a (h | h | h)
            · exact .inl h
            · cases h
            · rw [fle, List.mem_singleton] at h; exact .inr h
          have nbx : ¬ ban F os as1 x := S1.notban hx
          have up : ∀ (H0 : Hp) (as0 : SA) u v, im F.G (rts as1) (ban F os as1) u v H1 → im F.G (rts ((as1.map fun p => (p.1, [])) ++ [(x, [x])])) (ban ⟨F.G, ban F os as1, H0, as0, noR⟩ [] ((as1.map fun p => (p.1, [])) ++ [(x, [x])])) u v (upd (upd H1 dx (.own x)) x (.ins (F.G.at_ c) dx [])) := fun H0 as0 u v h => by
            rw [rle]
            have h1 : im F.G (rts as1) (fun a => ban F os as1 a ∨ a = x) u v H1 := im_sub (fun a n b => b.elim id fun z => absurd (z ▸ hx) n) _ _ h
            exact im_sub (fun a _ b => ab H0 as0 a b) _ _ (im_st (RB.of_ex hH) _ _ (im_rs rsx _ _ h1))
          refine ⟨ban F os as1, (as1.map fun p => (p.1, [])) ++ [(x, [x])], opq st1 ++ [.obj c [] []], .loc st1.length :: us, .non, st2, fun a b => ?_, by rw [fle]; simp, fun a m => ?_, ?_, ⟨.ref x, vs, rfl, ⟨x, ?_, rfl⟩, imAll_map (up _ _) pv⟩, e, fun as' v H' rr => ?_⟩
          · rcases ab _ _ a b with z | z
            · exact (Go.of_ex (as := as1) hH).alive (S1.ok a z)
            · rw [z, upd_same]; exact fun q => nomatch q
          · rw [fle, List.mem_singleton] at m; rw [m]; exact nbx
          · refine StOk.snoc ?_ ?_
            · exact ⟨x, dx, [], [], rfl, rfl, upd_same, rfl, rfl, rfl⟩
            · have := StOk.opq (G := F.G) (B := ban ⟨F.G, ban F os as1, upd (upd H1 dx (.own x)) x (.ins (F.G.at_ c) dx []), (as1.map fun p => (p.1, [])) ++ [(x, [x])], noR⟩ [] ((as1.map fun p => (p.1, [])) ++ [(x, [x])])) (H := upd (upd H1 dx (.own x)) x (.ins (F.G.at_ c) dx [])) as1 st1 S1.sto.len
              rw [rle]
              exact StOk.mono (fun u v h => im_rs rsx _ _ h) (fun _ _ h => h) (fun _ _ => rfl) this
          · rw [rle, ← rlen, List.getElem?_append_right (Nat.le_refl _), Nat.sub_self]; rfl
          · refine ⟨rr.im, ?_⟩
            have exH : ∀ a o, H1 a = some o → H' a = some o := fun a o h => rr.rel.rb.keep a o (by
              show a ∉ fl _
              rw [fle, List.mem_singleton]
              exact fun z => by rw [z, hx] at h; cases h) (hH a o h)
            have ex : Ex H1 H' := exH
            obtain ⟨pp, ep⟩ : ∃ pp, as'[st1.length]? = some pp := by
              have : st1.length < as'.length := by rw [rr.sto.len]; exact getElem?_lt eu
              exact ⟨_, List.getElem?_eq_getElem this⟩
            have hroot : pp.1 = x := by
              have h1 := rr.rel.pre st1.length x (by rw [show rts _ = rts as1 ++ [x] from rle, ← rlen, List.getElem?_append_right (Nat.le_refl _), Nat.sub_self]; rfl)
              unfold rts at h1
              rw [List.getElem?_map, ep] at h1
              exact Option.some.inj h1
            have oc := rr.sto.get ep eu
            rw [hroot] at oc
            have nA : ∀ a ∈ pp.2, ¬ ban F os as1 a := fun a m => rr.nb a (mem_fl (List.mem_of_getElem? ep) m)
            have oc2 : ownC F.G (rts as') (ban F os as1) u (.ref x) H' pp.2 := ownC_mono (fun u v h => im_sub (fun a _ b => .inl b) _ _ h) _ _ _ (fun _ _ => rfl) oc
            exact k (.ref x) H' as1 (g1.trans (Go.of_ex ex)) (S1.ex ex) (im_nl _ _ hn (ownC_im nA oc2))
        · rw [if_neg hn] at q1; cases q1
    | (.er _, _), e, q1 => cases q1
end
end UX

set_option Elab.async false
set_option linter.all false
set_option maxRecDepth 100000
set_option maxHeartbeats 4000000
set_option autoImplicit false
namespace UX
open PySem PySem.Spec PyProof.Rows L2
open EL (Ex RB BOk Bn TK FnG okG)
def idxF (f : Str) : List Str → Option Nat
  | [] => none
  | n :: ns => if n = f then some 0 else (idxF f ns).map (· + 1)
theorem idx_zip {f : Str} : ∀ {ns : List Str} {vs : List V} {j : Nat} {v : V}, idxF f ns = some j → vs[j]? = some v → (ns.zip vs).lookup f = some v
  | [], _, _, _, e, _ => by cases e
  | n :: ns, [], _, _, _, e => by simp at e
  | n :: ns, w :: vs, j, v, e, e2 => by
    unfold idxF at e
    rw [List.zip_cons_cons, List.lookup_cons]
    by_cases z : n = f
    · rw [if_pos z] at e
      cases e
      simp at e2
      rw [z, e2]; simp
    · rw [if_neg z] at e
      obtain ⟨j', e', rfl⟩ := Option.map_eq_some_iff.mp e
      have : (f == n) = false := by simpa using fun q => z q.symm
      rw [this]
      exact idx_zip e' (by simpa using e2)
theorem idx_none {f : Str} : ∀ {ns : List Str} {vs : List V}, idxF f ns = none → ns.length = vs.length → ∀ y, putF f y (ns.zip vs) = (ns ++ [f]).zip (vs ++ [y])
  | [], vs, _, l, y => by
    have : vs = [] := List.eq_nil_of_length_eq_zero l.symm
    subst this; rfl
  | n :: ns, [], _, l, _ => by cases l
  | n :: ns, v :: vs, e, l, y => by
    unfold idxF at e
    by_cases z : n = f
    · rw [if_pos z] at e; cases e
    · rw [if_neg z] at e
      have e' : idxF f ns = none := by
        cases q : idxF f ns with
        | none => rfl
        | some j => rw [q] at e; cases e
      show putF f y ((n, v) :: ns.zip vs) = _
      rw [putF, if_neg z, idx_none e' (by simpa using l) y]
      rfl
def fldC (cs : List Str) (f : Str) (c : Cl) : Option Cl := match c.2.1 with
  | .obj c0 ns us => if c0 ∈ cs then match idxF f ns with
    | some j => match us[j]? with
      | some u => some (c.1, (u, fun x => c.2.2 (.obj c0 ns (us.set j x))))
      | none => none
    | none => none else none
  | _ => none
section
variable {F : Fr} {os : Os} {as : SA} {st : Sto} {γ : List (U × V)} {H : Hp} {σ : L2.St} {δ : Dl}
theorem ec_fld {cs : List Str} {f : Str} {te : TE} {w : M Cl} (hc : ∀ c ∈ cs, Cls F.G.K (F.G.at_ c) ∧ NoAttr F.G.K (F.G.at_ c) f) (h : EvC F true te δ w) : EvC F false (tFld F.G.K te f) δ (.bind w fun c => .o (fldC cs f c)) := fun os as st γ σ H c st' S q QQ k => by
  obtain ⟨c1, st1, q1, q2⟩ := M.bind_inv q
  obtain ⟨e, rfl⟩ := M.o_inv q2
  refine h os as st γ σ H c1 _ S q1 _ fun x H1 as1 g1 S1 p1 => ?_
  obtain ⟨a, A, A1, A', A2, e0, eA, o, pl⟩ := p1.ex
  obtain ⟨i, u1, f1⟩ := c1
  cases u1 with
  | obj c0 ns us =>
    obtain ⟨b, dx, vs, B, e1, e2, e3, l, z⟩ := (show ownC F.G (rts as1) (ban F os as1) (.obj c0 ns us) x H1 A' from o)
    simp only [fldC] at e
    by_cases hm : c0 ∈ cs
    · rw [if_pos hm] at e
      cases ej : idxF f ns with
      | none => rw [ej] at e; cases e
      | some j =>
        rw [ej] at e
        simp only at e
        cases eu : us[j]? with
        | none => rw [eu] at e; cases e
        | some u =>
          rw [eu] at e
          simp only at e
          cases e
          obtain ⟨v, B1, B', B2, f1', f2, f3, f4⟩ := ownFs_split z eu
          refine ⟨b, F.G.at_ c0, dx, _, v, e1, e3, (hc c0 hm).1, (hc c0 hm).2, idx_zip ej f1', ?_⟩
          refine k v H1 as1 g1 S1 ⟨a, A, A1 ++ b :: B1, B', B2 ++ A2, e0, by rw [eA, e2, f2]; simp, f3, fun rs2 B2' H3 u2 A'2 t1 t3 o2 => ?_⟩
          have := pl rs2 B2' H3 (.obj c0 ns (us.set j u2)) (b :: (B1 ++ (A'2 ++ B2))) t1 (fun b z => t3 b (z.imp (fun z => List.mem_append_left _ z) fun z => List.mem_append_right _ z)) ⟨b, dx, vs, B1 ++ (A'2 ++ B2), e1, rfl, by rw [t3 b (.inl (List.mem_append_right _ List.mem_cons_self))]; exact e3, by rw [List.length_set]; exact l, f4 rs2 B2' H3 u2 A'2 t1 (fun b z => t3 b (z.imp (fun z => List.mem_append_right _ (List.mem_cons_of_mem _ z)) fun z => List.mem_append_left _ z)) o2⟩
          simpa using this
    · rw [if_neg hm] at e; cases e
  | _ => cases e
theorem fl_set {i : Nat} {x : Addr} {A0 A A1 : List Addr} (hp : A1.Perm (A0 ++ A)) : ∀ {as : SA}, as[i]? = some (x, A0) → (fl (as.set i (x, A1))).Perm (A ++ fl as) := by
  induction i with
  | zero =>
    intro as e
    cases as with
    | nil => simp at e
    | cons p as =>
      simp at e; subst e
      show (A1 ++ fl as).Perm (A ++ (A0 ++ fl as))
      rw [← List.append_assoc]
      exact (hp.trans List.perm_append_comm).append_right _
  | succ i ih =>
    intro as e
    cases as with
    | nil => simp at e
    | cons p as =>
      have := ih (as := as) (by simpa using e)
      show (p.2 ++ fl (as.set i (x, A1))).Perm (A ++ (p.2 ++ fl as))
      refine (List.Perm.append_left p.2 this).trans ?_
      rw [← List.append_assoc, ← List.append_assoc]
      exact (List.perm_append_comm).append_right _
theorem rts_set {i : Nat} {x : Addr} {A0 A : List Addr} {as : SA} (e : as[i]? = some (x, A0)) : rts (as.set i (x, A)) = rts as := by
  unfold rts
  rw [List.map_set]
  apply List.ext_getElem?
  intro j
  by_cases z : i = j
  · subst z
    have hl := getElem?_lt e
    rw [List.getElem?_set_self (by rw [List.length_map]; exact hl), List.getElem?_map, e]; rfl
  · rw [List.getElem?_set_ne z]
theorem StOk.put {G : Cxt} {B : Bn} {rs : List Addr} {H H' : Hp} (hk : ∀ u v, im G rs B u v H → im G rs B u v H') : ∀ {as : SA} {st : Sto} {i : Nat} {p p' : Addr × List Addr} {u : U}, StOk G B rs as st H → as[i]? = some p → (∀ (j : Nat) (q : Addr × List Addr), as[j]? = some q → j ≠ i → ∀ b ∈ q.2, H' b = H b) → ownC G rs B u (.ref p'.1) H' p'.2 → StOk G B rs (as.set i p') (st.set i u) H'
  | q :: as, s :: st, 0, p, p', u, ⟨h1, h2⟩, e, kp, o => ⟨o, by
      have : ∀ {as : SA} {st : Sto} (n : Nat), (∀ (j : Nat) (q : Addr × List Addr), as[j]? = some q → ∀ b ∈ q.2, H' b = H b) → StOk G B rs as st H → StOk G B rs as st H' := by
        intro as
        induction as with
        | nil => intro st n _ h; cases st <;> exact h
        | cons q as ih =>
          intro st n kp h
          cases st with
          | nil => exact h
          | cons s st => exact ⟨ownC_mono hk _ _ _ (fun b m => kp 0 q rfl b m) h.1, ih n (fun j q e b m => kp (j + 1) q (by simpa using e) b m) h.2⟩
      exact this 0 (fun j q e b m => kp (j + 1) q (by simpa using e) (by omega) b m) h2⟩
  | q :: as, s :: st, i + 1, p, p', u, ⟨h1, h2⟩, e, kp, o => ⟨ownC_mono hk _ _ _ (fun b m => kp 0 q rfl (by omega) b m) h1, StOk.put hk (i := i) h2 (by simpa using e) (fun j q e' ne b m => kp (j + 1) q (by simpa using e') (by omega) b m) o⟩
  | [], [], _, _, _, _, _, e, _, _ => by simp at e
theorem sa_disj {b : Addr} : ∀ {as : SA} {i j : Nat} {p q : Addr × List Addr}, (fl as).Nodup → as[i]? = some p → as[j]? = some q → b ∈ p.2 → b ∈ q.2 → i = j
  | [], _, _, _, _, _, e, _, _, _ => by simp at e
  | r :: as, 0, 0, _, _, _, _, _, _, _ => rfl
  | r :: as, 0, j + 1, p, q, nd, e1, e2, m1, m2 => by
    have nd' := List.nodup_append.mp (show (r.2 ++ fl as).Nodup from nd)
    simp at e1; subst e1
    exact absurd rfl (nd'.2.2 b m1 b (mem_fl (List.mem_of_getElem? (show as[j]? = some q by simpa using e2)) m2))
  | r :: as, i + 1, 0, p, q, nd, e1, e2, m1, m2 => by
    have nd' := List.nodup_append.mp (show (r.2 ++ fl as).Nodup from nd)
    simp at e2; subst e2
    exact absurd rfl (nd'.2.2 b m2 b (mem_fl (List.mem_of_getElem? (show as[i]? = some p by simpa using e1)) m1))
  | r :: as, i + 1, j + 1, p, q, nd, e1, e2, m1, m2 => by
    have nd' := List.nodup_append.mp (show (r.2 ++ fl as).Nodup from nd)
    rw [sa_disj nd'.2.1 (show as[i]? = some p by simpa using e1) (show as[j]? = some q by simpa using e2) m1 m2]
theorem SDo.give {k i : Nat} {A A0 A1 : List Addr} {x b : Addr} {o : HO} {u : U} {H' : Hp} (S : SDo F ((k, A) :: os) as st γ H σ δ) (hp : A1.Perm (A0 ++ A)) (hk : δ.length ≤ k) (e0 : as[i]? = some (x, A0)) (mb : b ∈ A0) (eb : H b = some o) (nt : ∀ xs, o ≠ .tup xs) (nf : ∀ y z, o ≠ .frz y z)
    (kp : ∀ c y, H c = some y → c ≠ b → c ∉ A → H' c = some y) (al : ∀ c, H c ≠ none → H' c ≠ none) (ntA : ∀ c ∈ A, ∀ xs, H c ≠ some (.tup xs)) (nfA : ∀ c ∈ A, ∀ y z, H c ≠ some (.frz y z)) (ow : (∀ v w, im F.G (rts as) (ban F ((k, A) :: os) as) v w H → im F.G (rts as) (ban F os (as.set i (x, A1))) v w H') → ownC F.G (rts as) (ban F os (as.set i (x, A1))) u (.ref x) H' A1) :
    SDo F os (as.set i (x, A1)) (st.set i u) γ H' σ δ := by
  have pm := fl_set hp e0
  have mfl : ∀ c, c ∈ fl (as.set i (x, A1)) ↔ c ∈ A ∨ c ∈ fl as := fun c => by rw [pm.mem_iff, List.mem_append]
  have bb : ∀ c, ban F os (as.set i (x, A1)) c ↔ ban F ((k, A) :: os) as c := fun c => by
    rw [ban_cons]
    unfold ban
    rw [mfl]
    constructor
    · rintro (h | h | h | h)
      · exact .inr (.inl h)
      · exact .inr (.inr (.inl h))
      · exact .inl h
      · exact .inr (.inr (.inr h))
    · rintro (h | h | h | h)
      · exact .inr (.inr (.inl h))
      · exact .inl h
      · exact .inr (.inl h)
      · exact .inr (.inr (.inr h))
  have hbb : ban F ((k, A) :: os) as b := .inr (.inr (mem_fl (List.mem_of_getElem? e0) mb))
  have hA : ∀ c ∈ A, ban F ((k, A) :: os) as c := fun c m => .inr (.inl (List.mem_append_left _ m))
  have rb : RB (ban F ((k, A) :: os) as) H H' :=
    ⟨fun c y n e => kp c y e (fun z => n (by rw [z]; exact hbb)) fun m => n (hA c m), fun c xs e => kp c _ e (fun z => by rw [z, eb] at e; exact nt xs (Option.some.inj e)) fun m => ntA c m xs e, fun c y z e => kp c _ e (fun q => by rw [q, eb] at e; exact nf y z (Option.some.inj e)) fun m => nfA c m y z e, fun c _ n => al c n⟩
  have up : ∀ v w, im F.G (rts as) (ban F ((k, A) :: os) as) v w H → im F.G (rts as) (ban F os (as.set i (x, A1))) v w H' := fun v w h => im_sub (fun c _ z => (bb c).mp z) _ _ (im_st rb _ _ h)
  have tp : ∀ c xs, H c = some (.tup xs) → H' c = some (.tup xs) := fun c xs e => rb.tup c xs e
  have nd : (A ++ (flo os ++ fl as)).Nodup := by rw [← List.append_assoc]; exact S.nd
  have nd1 := List.nodup_append.mp nd
  have ndf := (List.nodup_append.mp nd1.2.1).2.1
  have rse := rts_set (A := A1) e0
  refine ⟨fun p m => by rw [rse]; exact up _ _ (S.gh p m), ⟨⟨fun c y n e => ?_, fun c xs e => tp c xs (S.rel.rb.tup c xs e), fun c y z e => rb.frz c y z (S.rel.rb.frz c y z e), fun c _ n => al c (S.rel.alive n)⟩, fun j c e => by rw [rse]; exact S.rel.pre j c e, fun c m => ?_⟩, fun c z => al c (S.ok c ((bb c).mp z)), ?_, (List.nodup_cons.mp S.ix).2, fun c m => S.new c (List.mem_append_right A m), fun c z => ?_, ?_, S.len, fun j s e => ?_⟩
  · refine kp c y (S.rel.rb.keep c y n e) (fun z => ?_) fun m => ?_
    · rcases S.rel.new c (by rw [z]; exact mem_fl (List.mem_of_getElem? e0) mb) with w | w
      · exact n w
      · rw [e] at w; cases w
    · have := S.new c (List.mem_append_left _ m)
      rw [e] at this; cases this
  · rcases (mfl c).mp m with m | m
    · exact .inr (S.new c (List.mem_append_left _ m))
    · exact S.rel.new c m
  · have : (flo os ++ fl (as.set i (x, A1))).Perm (A ++ (flo os ++ fl as)) := by
      refine (List.Perm.append_left (flo os) pm).trans ?_
      rw [← List.append_assoc, ← List.append_assoc]
      exact (List.perm_append_comm).append_right _
    exact this.nodup_iff.mpr nd
  · rcases z with z | z
    · exact S.nb c (.inl (List.mem_append_right A z))
    · rcases (mfl c).mp z with m | m
      · exact S.nb c (.inl (List.mem_append_left _ m))
      · exact S.nb c (.inr m)
  · rw [rse]
    have s0 : StOk F.G (ban F os (as.set i (x, A1))) (rts as) as st H := StOk.mono (fun v w h => im_sub (fun c _ z => (bb c).mp z) _ _ h) (fun _ _ h => h) (fun _ _ => rfl) S.sto
    have hk2 : ∀ v w, im F.G (rts as) (ban F os (as.set i (x, A1))) v w H → im F.G (rts as) (ban F os (as.set i (x, A1))) v w H' := fun v w h => up v w (im_sub (fun c _ z => (bb c).mpr z) _ _ h)
    refine StOk.put hk2 s0 e0 (fun j q eq ne c m => ?_) (ow up)
    have mf : c ∈ fl as := mem_fl (List.mem_of_getElem? eq) m
    cases e : H c with
    | none => exact absurd e (S.ok c (.inr (.inr mf)))
    | some y =>
      refine kp c y e (fun z => ne ?_) fun mA => nd1.2.2 c mA c (List.mem_append_right _ mf) rfl
      subst z
      exact sa_disj ndf eq e0 m mb
  · obtain ⟨v, h1, h2⟩ := S.at_ j s e
    refine ⟨v, h1, ?_⟩
    match s, h2 with
    | .im u, h2 => show im F.G _ _ _ _ _; rw [rse]; exact up _ _ h2
    | .raw _, h2 => exact h2
    | .own sh u, ⟨C, m, h2⟩ =>
      have m' : (j, C) ∈ os := by
        rcases List.mem_cons.mp m with z | m
        · have := getElem?_lt e
          have : j = k := (Prod.mk.inj z).1
          omega
        · exact m
      refine ⟨C, m', ?_⟩
      rw [rse]
      refine own_mono up tp _ _ _ _ (fun c mc => ?_) h2
      have mo : c ∈ flo os := mem_flo m' mc
      cases ec : H c with
      | none => exact absurd ec (S.ok c (.inr (.inl (List.mem_append_right A mo))))
      | some y =>
        refine kp c y ec (fun z => ?_) fun mA => nd1.2.2 c mA c (List.mem_append_left _ mo) rfl
        exact (List.nodup_append.mp nd1.2.1).2.2 c mo b (mem_fl (List.mem_of_getElem? e0) mb) z
end
end UX

set_option Elab.async false
set_option linter.all false
set_option maxRecDepth 100000
set_option maxHeartbeats 4000000
set_option autoImplicit false
namespace UX
open PySem PySem.Spec PyProof.Rows L2
open EL (Ex RB BOk Bn TK FnG okG)
def newF (cs : List Str) (f : Str) (c : Cl) (x : U) : Option U := match c.2.1 with
  | .obj c0 ns us => if c0 ∈ cs ∧ idxF f ns = none ∧ ns.length = us.length ∧ us.length < 1000 then some (c.2.2 (.obj c0 (ns ++ [f]) (us ++ [x]))) else none
  | _ => none
section
variable {F : Fr} {os : Os} {as : SA} {st : Sto} {γ : List (U × V)} {H : Hp} {σ : L2.St} {δ : Dl}
theorem ownFs_snoc {G : Cxt} {rs rs2 : List Addr} {B B2 : Bn} {H H2 : Hp} {u : U} {v : V} {A' : List Addr} (t : ∀ u v, im G rs B u v H → im G rs2 B2 u v H2) (h' : ownF G rs2 B2 u v H2 A') : ∀ {us : List U} {vs : List V} {A : List Addr}, (∀ a ∈ A, H2 a = H a) → ownFs G rs B us vs H A → ownFs G rs2 B2 (us ++ [u]) (vs ++ [v]) H2 (A ++ A')
  | [], _, _, _, ⟨e1, e2⟩ => by subst e1 e2; exact ⟨v, [], A', [], rfl, by simp, h', rfl, rfl⟩
  | x :: us, _, A, k, ⟨y, r, A1, A2, e1, e2, h1, h2⟩ => by
    subst e1 e2
    exact ⟨y, r ++ [v], A1, A2 ++ A', rfl, by simp, ownF_mono t x y A1 (fun a m => k a (List.mem_append_left _ m)) h1, ownFs_snoc t h' (fun a m => k a (List.mem_append_right _ m)) h2⟩
theorem ownF_notup {G : Cxt} {rs : List Addr} {B : Bn} {H : Hp} : (∀ (u : U) (v : V) (A : List Addr), ownF G rs B u v H A → ∀ c ∈ A, (∀ xs, H c ≠ some (.tup xs)) ∧ ∀ y z, H c ≠ some (.frz y z)) := by
  have key : ∀ (n : Nat), (∀ (u : U) (v : V) (A : List Addr), sizeOf u ≤ n → ownF G rs B u v H A → ∀ c ∈ A, (∀ xs, H c ≠ some (.tup xs)) ∧ ∀ y z, H c ≠ some (.frz y z)) ∧ (∀ (us : List U) (vs : List V) (A : List Addr), sizeOf us ≤ n → ownFs G rs B us vs H A → ∀ c ∈ A, (∀ xs, H c ≠ some (.tup xs)) ∧ ∀ y z, H c ≠ some (.frz y z)) := by
    intro n
    induction n with
    | zero =>
      constructor
      · intro u v A hs
        cases u <;> simp at hs
      · intro us vs A hs
        cases us <;> simp at hs
    | succ n ih =>
      constructor
      · intro u v A hs h c m
        cases u with
        | lst us =>
          obtain ⟨a, vs, A', e1, e2, e3, q⟩ := h
          rw [e2] at m
          rcases List.mem_cons.mp m with z | m
          · subst z; exact ⟨(fun xs z => by rw [e3] at z; cases z), fun y z w => by rw [e3] at w; cases w⟩
          · exact ih.2 us vs A' (by simp at hs; omega) q c m
        | dct ks us =>
          obtain ⟨a, vs, A', e1, e2, e3, l, q⟩ := h
          rw [e2] at m
          rcases List.mem_cons.mp m with z | m
          · subst z; exact ⟨(fun xs z => by rw [e3] at z; cases z), fun y z w => by rw [e3] at w; cases w⟩
          · exact ih.2 us vs A' (by simp at hs; omega) q c m
        | dcT ks us =>
          obtain ⟨a, vs, A', e1, e2, e3, l, q⟩ := h
          rw [e2] at m
          rcases List.mem_cons.mp m with z | m
          · subst z; exact ⟨(fun xs z => by rw [e3] at z; cases z), fun y z w => by rw [e3] at w; cases w⟩
          · exact ih.2 us vs A' (by simp at hs; omega) q c m
        | _ => rw [h.1] at m; cases m
      · intro us vs A hs h c m
        cases us with
        | nil => rw [h.2] at m; cases m
        | cons u us =>
          obtain ⟨v, r, A1, A2, e1, e2, h1, h2⟩ := h
          rw [e2] at m
          rcases List.mem_append.mp m with m | m
          · exact ih.1 u v A1 (by simp at hs; omega) h1 c m
          · exact ih.2 us r A2 (by simp at hs; omega) h2 c m
  intro u v A h
  exact (key (sizeOf u)).1 u v A (Nat.le_refl _) h
theorem blk_fldC {S L : Type} {δn : S → Dl} {δl : L → Dl} {cs : List Str} {f : Str} {j : Nat} {u0 : U} {te : TE} {t2 : TS} {we : M U} {k : M (Out S L)} (hc : ∀ c ∈ cs, Cls F.G.K (F.G.at_ c) ∧ NoAttr F.G.K (F.G.at_ c) f) (he : EvNF F te δ we) (hj : δ[j]? = some (some (.im u0))) (h2 : Blk F t2 δ k δn δl) :
    Blk F (tSeq (sFld F.G.K (tVar j) te f) t2) δ (.bind we fun x => .bind (locM u0) fun c => .bind (.o (newF cs f c x)) fun u => .bind (putC c.1 u) fun _ => k) δn δl := fun D os as st γ σ H o st' Q q P => by
  obtain ⟨x, st1, q1, q2⟩ := M.bind_inv q
  obtain ⟨c, st2, q3, q4⟩ := M.bind_inv q2
  obtain ⟨u, st3, q5, q6⟩ := M.bind_inv q4
  obtain ⟨_, st4, q7, q8⟩ := M.bind_inv q6
  obtain ⟨ed, rfl⟩ := M.o_inv q5
  clear q q2 q4 q6
  refine he os as st γ σ H x st1 Q q1 _ fun xv H1 as1 A g1 S1 px n => ?_
  obtain ⟨k1, hk1, hl1⟩ := nodup_fresh (os.map (·.1)) δ.length
  have S2 := S1 k1 hk1
  obtain ⟨v, ev, pv⟩ := S2.get hj
  refine ⟨v, ev, ?_⟩
  cases u0 with
  | loc i => ?_
  | _ => cases q3
  obtain ⟨a, ea, evv⟩ := pv
  simp only [locM] at q3
  cases es : st1[i]? with
  | none => rw [es] at q3; cases q3
  | some x0 =>
    rw [es] at q3
    simp only at q3
    cases q3
    obtain ⟨⟨a', A0⟩, e1, e2⟩ : ∃ p, as1[i]? = some p ∧ p.1 = a := by
      unfold rts at ea
      rw [List.getElem?_map] at ea
      exact Option.map_eq_some_iff.mp ea
    simp only at e2
    subst e2
    have oc := S2.sto.get e1 es
    cases x0 with
    | obj c0 ns us =>
      simp only [newF, id] at ed
      split at ed
      case isFalse => cases ed
      rename_i hcond
      cases ed
      obtain ⟨b, dx, vs, B, f1, f2, f3, l, z⟩ := oc
      cases f1
      have f2 : A0 = a' :: B := f2
      have lv : ns.length = vs.length := by rw [ownFs_len z]; exact l
      refine ⟨a', F.G.at_ c0, dx, _, evv, f3, (hc c0 hcond.1).1, (hc c0 hcond.1).2, by rw [List.length_zip, lv, Nat.min_self, ownFs_len z]; exact hcond.2.2.2, ?_⟩
      rw [idx_none hcond.2.1 lv]
      unfold putC at q7
      simp only [getElem?_lt es, if_true] at q7
      cases q7
      have nd : (A ++ (flo os ++ fl as1)).Nodup := by rw [← List.append_assoc]; exact S2.nd
      have nA : ∀ c ∈ A, c ≠ a' := fun c m e => (List.nodup_append.mp nd).2.2 c m a' (List.mem_append_right _ (mem_fl (List.mem_of_getElem? e1) (by rw [f2]; exact List.mem_cons_self))) e
      have nB : ∀ c ∈ B, c ≠ a' := fun c m e => by
        have := sa_nodup as1 i (List.nodup_append.mp (List.nodup_append.mp nd).2.1).2.1 e1
        rw [f2] at this
        exact (List.nodup_cons.mp this).1 (e ▸ m)
      refine h2 D os _ _ γ σ _ o st' (S2.give (i := i) (x := a') (b := a') (A0 := A0) (A1 := A0 ++ A) (H' := upd H1 a' (.ins (F.G.at_ c0) dx ((ns ++ [f]).zip (vs ++ [xv])))) (List.Perm.refl _) hl1 e1 (by rw [f2]; exact List.mem_cons_self) f3 (fun _ z => nomatch z) (fun _ _ z => nomatch z) (fun c y e ne _ => by rw [upd_ne ne]; exact e) (fun c ne => ?_) (fun c m xs => (ownF_notup _ _ _ px c m).1 xs) (fun c m y z => (ownF_notup _ _ _ px c m).2 y z) fun up => ?_) q8 P
      · by_cases z : c = a'
        · rw [z, upd_same]; exact fun q => nomatch q
        · rw [upd_ne z]; exact ne
      · refine ⟨a', dx, vs ++ [xv], B ++ A, rfl, by rw [f2]; rfl, upd_same, by rw [List.length_append, List.length_append, l]; rfl, ?_⟩
        exact ownFs_snoc up (ownF_mono up _ _ _ (fun c m => upd_ne (nA c m)) px) (fun c m => upd_ne (nB c m)) z
    | _ => cases ed
end
end UX

set_option Elab.async false
set_option linter.all false
set_option maxRecDepth 100000
set_option maxHeartbeats 4000000
set_option autoImplicit false
namespace UX
open PySem PySem.Spec PyProof.Rows L2
open EL (Ex RB BOk Bn TK FnG okG)
structure LSF (F : Fr) (os : Os) (k0 : Nat) (D : Addr) (as : SA) (st : Sto) (γ : List (U × V)) (H : Hp) (σ : L2.St) (δ : Dl) (accU : List U) (A : List Addr) : Prop where
  S : SDo F ((k0, D :: A) :: os) as st γ H σ δ
  a : ∃ acc, H D = some (.lst acc) ∧ ownFs F.G (rts as) (ban F ((k0, D :: A) :: os) as) accU acc H A
section
variable {F : Fr} {os : Os} {as as' : SA} {st st' : Sto} {γ : List (U × V)} {H H' : Hp} {σ : L2.St} {δ : Dl} {k0 : Nat} {D : Addr} {accU : List U} {A : List Addr}
theorem ownFs_go {os : Os} {us : List U} {vs : List V} {A : List Addr} (g : Go as as' H H') (h : ownFs F.G (rts as) (ban F os as) us vs H A) (k : ∀ a ∈ A, a ∉ fl as) (al : ∀ a ∈ A, H a ≠ none) : ownFs F.G (rts as') (ban F os as') us vs H' A :=
  ownFs_mono (fun _ _ h => im_go g h) _ _ _ (fun a m => by
    cases e : H a with
    | none => exact absurd e (al a m)
    | some o => exact g.rb.keep a o (k a m) e) h
theorem LSF.go (l : LSF F os k0 D as st γ H σ δ accU A) {σ' : L2.St} {δ' : Dl} (g : Go as as' H H') (S : SDo F ((k0, D :: A) :: os) as' st' γ H' σ' δ') : LSF F os k0 D as' st' γ H' σ' δ' accU A := by
  obtain ⟨acc, e, h⟩ := l.a
  have nf : ∀ a ∈ D :: A, a ∉ fl as := fun a m q => (List.nodup_append.mp l.S.nd).2.2 a (List.mem_append_left _ m) a q rfl
  exact ⟨S, acc, g.rb.keep _ _ (nf D List.mem_cons_self) e, ownFs_go g h (fun a m => nf a (List.mem_cons_of_mem _ m)) fun a m => l.S.ok a (.inr (.inl (List.mem_append_left _ (List.mem_cons_of_mem _ m))))⟩
theorem LSF.push {k : Nat} {B : List Addr} (l : LSF F os k0 D as st γ H σ δ accU A) (hk : δ.length ≤ k0) (hk1 : δ.length ≤ k) (hko : k0 ∉ os.map (·.1)) {u : U} {y : V} {as2 : SA} {st2 : Sto} {H2 : Hp} (g : Go as as2 H H2) (S2 : SDo F ((k, B) :: (k0, D :: A) :: os) as2 st2 γ H2 σ δ) (hB : ∀ a ∈ B, H a = none) (p : ownF F.G (rts as2) (ban F ((0, B) :: (k0, D :: A) :: os) as2) u y H2 B) :
    ∃ acc, H2 D = some (.lst acc) ∧ acc.length = accU.length ∧ LSF F os k0 D as2 st2 γ (upd H2 D (.lst (acc ++ [y]))) σ δ (accU ++ [u]) (A ++ B) := by
  obtain ⟨acc, e, h⟩ := l.a
  have nf : ∀ a ∈ D :: A, a ∉ fl as := fun a m q => (List.nodup_append.mp l.S.nd).2.2 a (List.mem_append_left _ m) a q rfl
  have al : ∀ a ∈ D :: A, H a ≠ none := fun a m => l.S.ok a (.inr (.inl (List.mem_append_left _ m)))
  have e2 : H2 D = some (.lst acc) := g.rb.keep _ _ (nf D List.mem_cons_self) e
  have h2 : ownFs F.G (rts as2) (ban F ((k, B) :: (k0, D :: A) :: os) as2) accU acc H2 A := by
    have h1 : ownFs F.G (rts as) (ban F ((k, B) :: (k0, D :: A) :: os) as) accU acc H A := ownFs_mono (fun _ _ z => im_sub (sub_cons hB) _ _ z) _ _ _ (fun _ _ => rfl) h
    exact ownFs_go (os := (k, B) :: (k0, D :: A) :: os) g h1 (fun a m => nf a (List.mem_cons_of_mem _ m)) fun a m => al a (List.mem_cons_of_mem _ m)
  have S3 := S2.merge (k := k0) hk hk1 hko
  have c : Chg F ((k0, (D :: A) ++ B) :: os) as2 H2 (upd H2 D (.lst (acc ++ [y]))) k0 ((D :: A) ++ B) ((D :: A) ++ B) D := chg_same List.mem_cons_self List.mem_cons_self S3 e2 (fun _ z => nomatch z) (fun _ _ z => nomatch z)
  have S4 := S3.mut c (x := none) (fun _ z => nomatch z)
  have so := setOs_same S3.ix (List.mem_cons_self (a := (k0, (D :: A) ++ B)) (l := os))
  rw [so, List.set_eq_of_length_le hk] at S4
  have bb : ∀ a, ban F ((k0, (D :: A) ++ B) :: os) as2 a → ban F ((k, B) :: (k0, D :: A) :: os) as2 a := fun a b => by
    rw [ban_cons, List.mem_append] at b
    rw [ban_cons, ban_cons]
    rcases b with (h | h) | h
    · exact .inr (.inl h)
    · exact .inl h
    · exact .inr (.inr h)
  have up : ∀ u v, im F.G (rts as2) (ban F ((k, B) :: (k0, D :: A) :: os) as2) u v H2 → im F.G (rts as2) (ban F ((k0, D :: (A ++ B)) :: os) as2) u v (upd H2 D (.lst (acc ++ [y]))) := fun u v h => by
    have h1 : im F.G (rts as2) (ban F ((k0, (D :: A) ++ B) :: os) as2) u v H2 := im_sub (fun a _ b => bb a b) _ _ h
    have := c.im h1
    rw [so] at this
    exact this
  have nd : ((D :: A) ++ B).Nodup := os_nodup _ (List.nodup_append.mp S3.nd).1 List.mem_cons_self
  have nD := (List.nodup_cons.mp (show (D :: (A ++ B)).Nodup from nd)).1
  refine ⟨acc, e2, ownFs_len h, S4, acc ++ [y], upd_same, ?_⟩
  exact ownFs_snoc up (ownF_mono up _ _ _ (fun a m => upd_ne fun z => nD (z ▸ List.mem_append_right _ m)) p) (fun a m => upd_ne fun z => nD (z ▸ List.mem_append_left _ m)) h2
end
section
variable {F : Fr} {δ : Dl} {wi : TI} {g : TG} {tt : TT} {te : TE} {vs : List Nat} {wl : M (List U)}
theorem enf_lc {wt : U → M Bool} {we : U → M U} (no : noOwn δ vs = true) (hs : Src F wi δ wl)
    (hb : ∀ u st r, wt u st = some r → ∃ δ', TgOk F g vs (wipD δ vs) u δ' ∧ EvT F tt δ' (wt u) ∧ EvNF F te δ' (we u)) : EvNF F (tLc wi g tt te vs) δ (lcW wl wt we) := fun os as st γ σ H c st' S q QQ k => by
  obtain ⟨us, st1, qs, q1⟩ := M.bind_inv q
  obtain ⟨r, st2, qr, q2⟩ := M.bind_inv q1
  obtain ⟨e, rfl⟩ := M.o_inv q2
  clear q q1 q2
  unfold szU at e
  by_cases hsz : r.length ≤ sizeLine
  case neg => rw [if_neg hsz] at e; cases e
  rw [if_pos hsz] at e
  cases e
  refine hs os as st (ghv σ δ vs ++ γ) σ H us st1 (S.ghost (ghv_ok S vs)) qs _ fun J H1 as1 gh g1 S1 W D hD => ?_
  obtain ⟨k0, hk0, hkl⟩ := nodup_fresh (os.map (·.1)) δ.length
  have S2 := S1.grow hk0 hD (Ex.new (o := .lst []) hD) (by rw [upd_same]; exact fun z => nomatch z)
  have hD0 : H D = none := g1.fresh hD
  have hkw : (wipD δ vs).length ≤ k0 := by rw [wipD_len]; exact hkl
  refine ⟨fun i m Hc => m = us.length - i ∧ i ≤ us.length ∧ ∃ as2 st2 accU rest A, Go as as2 H Hc ∧ (∀ a ∈ A, H a = none) ∧ LSF F os k0 D as2 st2 (gh ++ (ghv σ δ vs ++ γ)) Hc (L2.wipe σ vs) (wipD δ vs) accU A ∧ compM wt we (us.drop i) st2 = some (.ok rest, st') ∧ accU ++ rest = r,
    ⟨us.length, by simp, Nat.zero_le _, as1, st1, [], r, [], go_new (H1 := H) g1 hD0, (fun a m => nomatch m), ⟨S2.wipe vs, [], upd_same, rfl, rfl⟩, by rw [List.drop_zero]; exact qr, rfl⟩, ?_⟩
  rintro i m Hc ⟨rfl, hi, as2, st2, accU, rest, A, g2, hA, l2, q2, er⟩
  by_cases hlt : i < us.length
  · right
    refine ⟨W.goes i _ as2 st2 _ _ _ Hc hlt l2.S, fun H' => ∃ m', m' < us.length - i ∧ m' = us.length - (i + 1) ∧ i + 1 ≤ us.length ∧ ∃ as2 st2 accU rest A, Go as as2 H H' ∧ (∀ a ∈ A, H a = none) ∧ LSF F os k0 D as2 st2 (gh ++ (ghv σ δ vs ++ γ)) H' (L2.wipe σ vs) (wipD δ vs) accU A ∧ compM wt we (us.drop (i + 1)) st2 = some (.ok rest, st') ∧ accU ++ rest = r, fun H' ⟨m', h1, h2, h3⟩ => ⟨m', h1, h2, h3⟩, fun x H' y => ?_⟩
    have ed : us.drop i = us[i] :: us.drop (i + 1) := List.drop_eq_getElem_cons hlt
    rw [ed, compM] at q2
    obtain ⟨b, st3, q3, q4⟩ := M.bind_inv q2
    obtain ⟨δ', tg, ht, he⟩ := hb us[i] st2 _ q3
    obtain ⟨ex, px⟩ := W.yields i _ as2 st2 _ _ _ x Hc H' us[i] (List.getElem?_eq_getElem hlt) l2.S y
    have gx : Go as2 as2 Hc H' := Go.of_ex ex
    have l3 := l2.go gx (l2.S.ex ex)
    refine tg.2 _ as2 st2 _ H' _ x l3.S px _ fun σ2 wq S3 => ⟨by rw [wq, wipe_idem], ?_⟩
    have back : ∀ {os4 : Os} {as4 : SA} {st4 : Sto} {H4 : Hp}, SDo F os4 as4 st4 (gh ++ (ghv σ δ vs ++ γ)) H4 σ2 δ' → SDo F os4 as4 st4 (gh ++ (ghv σ δ vs ++ γ)) H4 (L2.wipe σ vs) (wipD δ vs) := fun S4 => by
      have := S4.wipe vs
      rw [wq, wipe_idem, tg.1, wipD_idem] at this
      exact this
    refine ht _ as2 st2 _ σ2 H' b st3 S3 q3 _ fun H3 as3 g3 S4 => ?_
    cases b with
    | false => exact ⟨us.length - (i + 1), by omega, rfl, hlt, as3, st3, accU, rest, A, (g2.trans gx).trans g3, hA, l3.go g3 (back S4), q4, er⟩
    | true =>
      simp only [if_true] at q4 ⊢
      obtain ⟨u, st5, q5, q6⟩ := M.bind_inv q4
      obtain ⟨r', st6, q7, q8⟩ := M.bind_inv q6
      cases q8
      refine he _ as3 st3 _ σ2 H3 u st5 S4 q5 _ fun y H5 as5 B g5 S5 py nB => ?_
      obtain ⟨k1, hk1, hkl1⟩ := nodup_fresh (((k0, D :: A) :: os).map (·.1)) δ.length
      obtain ⟨acc, e1, e2, l5⟩ := (l3.go g3 (back S4)).push hkw (by rw [wipD_len]; exact hkl1) hk0 g5 (back (S5 k1 hk1)) nB py
      refine ⟨acc, e1, ?_, us.length - (i + 1), by omega, rfl, hlt, as5, st5, accU ++ [u], r', A ++ B, go_new (H1 := H) (((g2.trans gx).trans g3).trans g5) hD0, fun a m => ?_, l5, q7, by rw [List.append_assoc]; exact er⟩
      · rw [e2]
        rw [← er, List.length_append, List.length_cons] at hsz
        omega
      · rcases List.mem_append.mp m with z | z
        · exact hA a z
        · exact ((g2.trans gx).trans g3).fresh (nB a z)
  · left
    have e : i = us.length := by omega
    subst e
    rw [List.drop_length] at q2
    cases q2
    rw [List.append_nil] at er
    subst er
    refine ⟨W.stops _ as2 _ _ _ _ Hc l2.S, ?_⟩
    obtain ⟨acc, e1, h1⟩ := l2.a
    refine k _ Hc as2 (D :: A) g2 (fun k hk => ?_) ⟨D, acc, A, rfl, rfl, e1, h1⟩ fun a m => ?_
    · have : SDo F ((k0, D :: A) :: os) as2 _ γ Hc σ δ := SDo.restore (g := []) (vs := vs) S no l2.S.unghost
      exact this.reix hkl hk
    · rcases List.mem_cons.mp m with z | z
      · rw [z]; exact hD0
      · exact hA a z
theorem enf_dK : EvNF F tDNewK δ (.ret (.dct [] [])) := fun os as st γ σ H c st' S q QQ k => by
  cases q
  intro p hp
  refine k _ _ as [p] (Go.of_ex (Ex.new hp)) (fun k hk => S.grow hk hp (Ex.new hp) (by rw [upd_same]; exact fun z => nomatch z)) ⟨p, [], [], rfl, rfl, upd_same, rfl, rfl, rfl⟩ fun a m => by rw [List.mem_singleton] at m; rw [m]; exact hp
end
end UX

set_option Elab.async false
set_option linter.all false
set_option maxRecDepth 100000
set_option maxHeartbeats 4000000
set_option autoImplicit false
namespace UX
open PySem PySem.Spec PyProof.Rows L2
open EL (Ex RB BOk Bn TK FnG okG)
def keyU : U → Option Key
  | .int i => some (.inl i)
  | .str x => some (.inr x)
  | _ => none
def keysU : List U → Option (List Key)
  | [] => some []
  | u :: us => match keyU u, keysU us with
    | some k, some ks => some (k :: ks)
    | _, _ => none
def tkeyU : U → Option (List Key)
  | .tup us => keysU us
  | _ => none
def idxK {κ : Type} [DecidableEq κ] (k : κ) : List κ → Option Nat
  | [] => none
  | x :: xs => if x = k then some 0 else (idxK k xs).map (· + 1)
section
variable {κ : Type} [DecidableEq κ]
theorem idxK_val {k : κ} : ∀ {ks : List κ} {vs : List V} {j : Nat} {v : V}, idxK k ks = some j → vs[j]? = some v → valV (ks.zip vs) k = some v
  | [], _, _, _, e, _ => by cases e
  | x :: ks, [], _, _, _, e => by simp at e
  | x :: ks, w :: vs, j, v, e, e2 => by
    unfold idxK at e
    rw [List.zip_cons_cons]
    by_cases z : x = k
    · rw [if_pos z] at e
      cases e
      simp at e2
      rw [valV_pos z, e2]
    · rw [if_neg z] at e
      obtain ⟨j', e', rfl⟩ := Option.map_eq_some_iff.mp e
      rw [valV_neg z]
      exact idxK_val e' (by simpa using e2)
theorem idxK_lt {k : κ} : ∀ {ks : List κ} {j : Nat}, idxK k ks = some j → j < ks.length
  | [], _, e => by cases e
  | x :: ks, j, e => by
    unfold idxK at e
    by_cases z : x = k
    · rw [if_pos z] at e; cases e; simp
    · rw [if_neg z] at e
      obtain ⟨j', e', rfl⟩ := Option.map_eq_some_iff.mp e
      have := idxK_lt e'
      simp; omega
theorem idxK_none {k : κ} : ∀ {ks : List κ} {vs : List V}, idxK k ks = none → valV (ks.zip vs) k = none
  | [], vs, _ => rfl
  | x :: ks, [], _ => rfl
  | x :: ks, w :: vs, e => by
    unfold idxK at e
    by_cases z : x = k
    · rw [if_pos z] at e; cases e
    · rw [if_neg z] at e
      rw [List.zip_cons_cons, valV_neg z]
      refine idxK_none ?_
      cases q : idxK k ks with
      | none => rfl
      | some j => rw [q] at e; cases e
theorem putK_zip {k : κ} {y : V} {ks : List κ} {vs : List V} (l : ks.length = vs.length) (e : idxK k ks = none) : putK (ks.zip vs) k y = (ks ++ [k]).zip (vs ++ [y]) := by
  rw [putK_new y (idxK_none e), List.zip_append l]
  rfl
theorem putK_set {k : κ} {y : V} : ∀ {ks : List κ} {vs : List V} {j : Nat}, ks.length = vs.length → ks.Nodup → idxK k ks = some j → (ks.zip vs).map (fun kv => if kv.1 = k then (kv.1, y) else kv) = ks.zip (vs.set j y)
  | [], _, _, _, _, e => by cases e
  | x :: ks, [], _, l, _, _ => by cases l
  | x :: ks, v :: vs, j, l, nd, e => by
    unfold idxK at e
    have nd' := List.nodup_cons.mp nd
    by_cases z : x = k
    · rw [if_pos z] at e; cases e
      rw [List.zip_cons_cons, List.map_cons, if_pos z, List.set_cons_zero, List.zip_cons_cons]
      congr 1
      have : ∀ p ∈ ks.zip vs, (if p.1 = k then (p.1, y) else p) = p := fun p m => if_neg fun q => nd'.1 (by rw [z, ← q]; exact (List.of_mem_zip m).1)
      rw [List.map_congr_left this, List.map_id']
    · rw [if_neg z] at e
      obtain ⟨j', e', rfl⟩ := Option.map_eq_some_iff.mp e
      rw [List.zip_cons_cons, List.map_cons, if_neg z, putK_set (by simpa using l) nd'.2 e', List.set_cons_succ, List.zip_cons_cons]
end
def sdAppU (node key x : U) : Option U := match node, keyU key with
  | .dct ks us, some k => if ks.length < sizeLine ∧ leafU x = true then match idxK k ks with
    | some j => match us[j]? with
      | some (.lst xs) => if xs.length < sizeLine ∧ xs.all leafU = true then some (.dct ks (us.set j (.lst (xs ++ [x])))) else none
      | _ => none
    | none => some (.dct (ks ++ [k]) (us ++ [.lst [x]])) else none
  | _, _ => none
section
variable {F : Fr} {os : Os} {as : SA} {st : Sto} {γ : List (U × V)} {H : Hp} {σ : L2.St} {δ : Dl}
theorem im_key {G : Cxt} {rs : List Addr} {B : Bn} {u : U} {v : V} {k : Key} (e : keyU u = some k) (h : im G rs B u v H) : v = kV k := by
  cases u <;> simp [keyU] at e
  · subst e; exact h
  · subst e; exact h
theorem HoleC.go0 {r : Bool} {i : Nat} {h : Hl} {v : V} {H' : Hp} (p : HoleC F os as H r i h v) (S : SDo F os as st γ H σ δ) (e : Ex H H') : HoleC F os as H' r i h v := by
  obtain ⟨a, A, A1, A', A2, e0, eA, o, pl⟩ := p.ex
  have kp : ∀ b ∈ A, H' b = H b := fun b m => by
    cases q : H b with
    | none => exact absurd q (S.ok b (.inr (.inr (mem_fl (List.mem_of_getElem? e0) m))))
    | some y => exact e b y q
  have t : ∀ u v, im F.G (rts as) (ban F os as) u v H → im F.G (rts as) (ban F os as) u v H' := fun u v h => im_st (RB.of_ex e) _ _ h
  refine ⟨a, A, A1, A', A2, e0, eA, ?_, fun rs2 B2 H2 u2 A'2 t1 t3 o2 => pl rs2 B2 H2 u2 A'2 (fun u v z => t1 u v (t u v z)) (fun b z => by rw [t3 b z, kp b (by rw [eA]; exact z.elim (fun z => List.mem_append_left _ z) fun z => List.mem_append_right _ (List.mem_append_right _ z))]) o2⟩
  have kA' : ∀ b ∈ A', H' b = H b := fun b m => kp b (by rw [eA]; exact List.mem_append_right _ (List.mem_append_left _ m))
  cases r with
  | true => exact ownC_mono t _ _ _ kA' o
  | false => exact ownF_mono t _ _ _ kA' o
theorem HoleC.key {r : Bool} {i j : Nat} {ks : List Key} {us : List U} {f : U → U} {v : V} {u : U} (p : HoleC F os as H r i (.dct ks us, f) v) (eu : us[j]? = some u) : ∃ d vs w, v = .ref d ∧ H d = some (.dK (ks.zip vs)) ∧ ks.length = us.length ∧ vs.length = us.length ∧ vs[j]? = some w ∧ HoleC F os as H false i (u, fun x => f (.dct ks (us.set j x))) w := by
  obtain ⟨a, A, A1, A', A2, e0, eA, o, pl⟩ := p.ex
  have o : ownF F.G (rts as) (ban F os as) (.dct ks us) v H A' := by cases r <;> exact o
  obtain ⟨d, vs, B, e1, e2, e3, l, z⟩ := o
  obtain ⟨w, B1, B', B2, f1', f2, f3, f4⟩ := ownFs_split z eu
  refine ⟨d, vs, w, e1, e3, l, ownFs_len z, f1', a, A, A1 ++ d :: B1, B', B2 ++ A2, e0, by rw [eA, e2, f2]; simp, f3, fun rs2 B2' H3 u2 A'2 t1 t3 o2 => ?_⟩
  have := pl rs2 B2' H3 (.dct ks (us.set j u2)) (d :: (B1 ++ (A'2 ++ B2))) t1 (fun b z => t3 b (z.imp (fun z => List.mem_append_left _ z) fun z => List.mem_append_right _ z)) (by
    have : ownF F.G rs2 B2' (.dct ks (us.set j u2)) v H3 (d :: (B1 ++ (A'2 ++ B2))) := ⟨d, vs, B1 ++ (A'2 ++ B2), e1, rfl, by rw [t3 d (.inl (List.mem_append_right _ List.mem_cons_self))]; exact e3, by rw [List.length_set]; exact l, f4 rs2 B2' H3 u2 A'2 t1 (fun b z => t3 b (z.imp (fun z => List.mem_append_right _ (List.mem_cons_of_mem _ z)) fun z => List.mem_append_left _ z)) o2⟩
    cases r <;> exact this)
  simpa using this
theorem blk_sdApp {S L : Type} {δn : S → Dl} {δl : L → Dl} {r : Bool} {j : Nat} {x : U} {tp ty : TE} {t2 : TS} {wc : M Cl} {wy : M U} {k : M (Out S L)} (hc : EvC F r tp δ wc) (hy : EvQ F ty δ wy) (hj : δ[j]? = some (some (.im x))) (h2 : Blk F t2 δ k δn δl) :
    Blk F (tSeq (tDrop (tBM F.G.K "list" rAppend (tDSetd tp ty (tLst tNil)) (tCons (tVar j) tNil))) t2) δ (.bind wc fun c => .bind wy fun y => .bind (.o (sdAppU c.2.1 y x)) fun d => .bind (putC c.1 (c.2.2 d)) fun _ => k) δn δl := fun D os as st γ σ H o st' Q q P => by
  obtain ⟨c, st2, q1, q2⟩ := M.bind_inv q
  obtain ⟨y, st3, q3, q4⟩ := M.bind_inv q2
  obtain ⟨d, st4, q5, q6⟩ := M.bind_inv q4
  obtain ⟨_, st5, q7, q8⟩ := M.bind_inv q6
  obtain ⟨ed, rfl⟩ := M.o_inv q5
  clear q q2 q4 q6
  refine hc os as st γ σ H c st2 Q q1 _ fun cv H2 as2 g2 S2 p2 => ?_
  obtain ⟨rfl, hq⟩ := hy os as2 st2 γ σ H2 y _ S2 q3
  obtain ⟨i, u1, f1⟩ := c
  cases u1 with
  | dct ks us =>
    simp only [sdAppU] at ed
    cases ek : keyU y with
    | none => rw [ek] at ed; cases ed
    | some key =>
      rw [ek] at ed
      simp only at ed
      split at ed
      case isFalse => cases ed
      rename_i hsz
      obtain ⟨a, A, A1, A', A2, e0, eA, ow, pl⟩ := p2.ex
      have ow' : ownF F.G (rts as2) (ban F os as2) (.dct ks us) cv H2 A' := by cases r <;> exact ow
      obtain ⟨dd, vs, B, e1, e2, e3, l, z⟩ := ow'
      have lv : ks.length = vs.length := by rw [ownFs_len z]; exact l
      refine ⟨dd, e1, .inl ⟨_, .inl e3⟩, hq _ fun yv py => ?_⟩
      have eyv := im_key ek py
      refine ⟨Nat.zero_le _, fun p hp => ?_⟩
      have ndp : dd ≠ p := fun z => by rw [z, hp] at e3; cases e3
      obtain ⟨xv, exv, pxv⟩ := S2.get hj
      refine ⟨ks.zip vs, key, by rw [upd_ne ndp]; exact e3, eyv, by rw [List.length_zip, ← lv, Nat.min_self]; exact hsz.1, fun w hw => ?_, fun hw => ?_⟩
      · cases ei : idxK key ks with
        | none => rw [idxK_none ei] at hw; cases hw
        | some jj =>
          rw [ei] at ed
          simp only at ed
          cases eu : us[jj]? with
          | none => rw [eu] at ed; cases ed
          | some u =>
            rw [eu] at ed
            cases u with
            | lst xs =>
              simp only at ed
              split at ed
              case isFalse => cases ed
              rename_i hxs
              cases ed
              have S3 := S2.ex (Ex.new (o := .lst []) hp)
              obtain ⟨d', vs', w', f1', f2', f3', f4', f5', hole⟩ := (p2.go0 S2 (Ex.new (o := .lst []) hp)).key eu
              have ed' : d' = dd := by rw [e1] at f1'; cases f1'; rfl
              subst ed'
              have ev : vs' = vs := by
                rw [upd_ne ndp, e3] at f2'
                have h1 : ks.zip vs = ks.zip vs' := by injection f2' with q; injection q
                have h2 := congrArg (List.map Prod.snd) h1
                rw [List.map_snd_zip (by omega), List.map_snd_zip (by omega)] at h2
                exact h2.symm
              subst ev
              have ww : w = w' := by rw [idxK_val ei f5'] at hw; cases hw; rfl
              subst ww
              obtain ⟨b, ys, C, g1', g3', zz, nB, lt, fin⟩ := hole.setL (us' := xs ++ [x]) S3
              obtain ⟨zC, hv⟩ := (flat_ownFs hxs.2).mp zz
              subst g1' zC
              refine ⟨.inl ⟨rfl, ys, EL.sqL_of g3'⟩, xv, exv, b, ys, xv, rfl, rfl, g3', by rw [imAll_len hv]; exact hxs.1, ?_⟩
              unfold putC at q7
              simp only [lt, if_true] at q7
              cases q7
              refine h2 D os as2 _ γ σ _ o st' (fin (ys ++ [xv]) fun H4 t4 _ => ?_) q8 P
              refine (flat_ownFs (by simp [hxs.2, hsz.2])).mpr ⟨rfl, imAll_snoc (imAll_map t4 hv) (t4 _ _ (im_st (RB.of_ex (Ex.new hp)) _ _ pxv))⟩
            | _ => cases ed
      · cases ei : idxK key ks with
        | some jj =>
          obtain ⟨w, ew⟩ : ∃ w, vs[jj]? = some w := ⟨_, List.getElem?_eq_getElem (by rw [← lv]; exact idxK_lt ei)⟩
          rw [idxK_val ei ew] at hw; cases hw
        | none =>
          rw [ei] at ed
          simp only at ed
          cases ed
          rw [putK_zip lv ei]
          refine ⟨.inl ⟨rfl, [], EL.sqL_of (by rw [upd_ne ndp.symm]; exact upd_same)⟩, xv, exv, p, [], xv, rfl, rfl, by rw [upd_ne ndp.symm]; exact upd_same, by decide, ?_⟩
          obtain ⟨k1, hk1, hl1⟩ := nodup_fresh (os.map (·.1)) δ.length
          have S3 := S2.grow hk1 hp (Ex.new (o := .lst []) hp) (by rw [upd_same]; exact fun z => nomatch z)
          have lt := S2.sto.lt e0
          unfold putC at q7
          simp only [lt, if_true] at q7
          cases q7
          have nd := sa_nodup as2 i (List.nodup_append.mp S2.nd).2.1 e0
          rw [eA, e2] at nd
          have nd1 := List.nodup_append.mp nd
          have nd2 := List.nodup_cons.mp nd1.2.1
          have np : ∀ c ∈ A, c ≠ p := fun c m e => S2.ok c (.inr (.inr (mem_fl (List.mem_of_getElem? e0) m))) (e ▸ hp)
          have mA1 : ∀ c ∈ A1, c ∈ A := fun c m => by rw [eA]; exact List.mem_append_left _ m
          have mA2 : ∀ c ∈ A2, c ∈ A := fun c m => by rw [eA]; exact List.mem_append_right _ (List.mem_append_right _ m)
          have mB : ∀ c ∈ B, c ∈ A := fun c m => by rw [eA, e2]; exact List.mem_append_right _ (List.mem_append_left _ (List.mem_cons_of_mem _ m))
          refine h2 D os _ _ γ σ _ o st' (S3.give (i := i) (x := a) (b := dd) (A0 := A) (A := [p]) (A1 := A1 ++ ((dd :: (B ++ [p])) ++ A2)) (H' := upd (upd (upd H2 p (.lst [])) dd (.dK ((ks ++ [key]).zip (vs ++ [V.ref p])))) p (.lst ([] ++ [xv]))) ?_ hl1 e0 (by rw [eA, e2]; exact List.mem_append_right _ List.mem_cons_self) (o := .dK (ks.zip vs)) (by rw [upd_ne ndp]; exact e3) (fun _ z => by cases z) (fun _ _ z => by cases z) (fun c w e ne m => ?_) (fun c ne => ?_) (fun c m xs => ?_) (fun c m w z => ?_) fun up => ?_) q8 P
          · rw [eA, e2]
            simp only [List.append_assoc, List.cons_append]
            refine List.Perm.append_left A1 (List.Perm.cons dd (List.Perm.append_left B ?_))
            exact (List.perm_append_comm (l₁ := [p]) (l₂ := A2))
          · rw [List.mem_singleton] at m
            rw [upd_ne m, upd_ne ne]; exact e
          · by_cases z1 : c = p
            · rw [z1, upd_same]; exact fun q => nomatch q
            · rw [upd_ne z1]
              by_cases z2 : c = dd
              · rw [z2, upd_same]; exact fun q => nomatch q
              · rw [upd_ne z2]; exact ne
          · rw [List.mem_singleton] at m; rw [m, upd_same]; exact fun z => nomatch z
          · rw [List.mem_singleton] at m; rw [m, upd_same]; exact fun z => nomatch z
          · have up2 : ∀ u v, im F.G (rts as2) (ban F os as2) u v H2 → im F.G (rts as2) (ban F os (as2.set i (a, A1 ++ ((dd :: (B ++ [p])) ++ A2)))) u v (upd (upd (upd H2 p (.lst [])) dd (.dK ((ks ++ [key]).zip (vs ++ [V.ref p])))) p (.lst ([] ++ [xv]))) := fun u v h => up u v (im_st (RB.of_ex (Ex.new hp)) _ _ (im_sub (sub_cons fun c m => by rw [List.mem_singleton] at m; rw [m]; exact hp) _ _ h))
            refine pl _ _ _ (.dct (ks ++ [key]) (us ++ [.lst [x]])) (dd :: (B ++ [p])) up2 (fun c z => ?_) ?_
            · have cA : c ∈ A := z.elim (mA1 c) (mA2 c)
              rw [upd_ne (np c cA), upd_ne fun e => ?_, upd_ne (np c cA)]
              subst e
              rcases z with z | z
              · exact nd1.2.2 c z c List.mem_cons_self rfl
              · exact nd2.1 (List.mem_append_right _ z)
            · have : ownF F.G (rts as2) (ban F os (as2.set i (a, A1 ++ ((dd :: (B ++ [p])) ++ A2)))) (.dct (ks ++ [key]) (us ++ [.lst [x]])) cv (upd (upd (upd H2 p (.lst [])) dd (.dK ((ks ++ [key]).zip (vs ++ [V.ref p])))) p (.lst ([] ++ [xv]))) (dd :: (B ++ [p])) := by
                refine ⟨dd, vs ++ [.ref p], B ++ [p], e1, rfl, by rw [upd_ne ndp, upd_same], by rw [List.length_append, List.length_append, l]; rfl, ownFs_snoc (u := .lst [x]) (v := .ref p) (A' := [p]) up2 ⟨p, [xv], [], rfl, rfl, upd_same, xv, [], [], [], rfl, rfl, (leaf_ownF hsz.2).mpr ⟨rfl, up2 _ _ pxv⟩, rfl, rfl⟩ (fun c m => ?_) z⟩
                · rw [upd_ne (np c (mB c m)), upd_ne fun e => nd2.1 (by rw [← e]; exact List.mem_append_left _ m), upd_ne (np c (mB c m))]
              cases r <;> exact this
  | _ => cases ed
end
end UX

set_option Elab.async false
set_option linter.all false
set_option maxRecDepth 100000
set_option maxHeartbeats 4000000
set_option autoImplicit false
namespace UX
open PySem PySem.Spec PyProof.Rows L2
open EL (Ex RB BOk Bn TK FnG okG)
def getU : U → U → Option (Option U)
  | .dct ks us, k => match keyU k with
    | some k => match idxK k ks with
      | some j => (us[j]?).map some
      | none => some none
    | none => none
  | .dcT ks us, k => match tkeyU k with
    | some k => match idxK k ks with
      | some j => (us[j]?).map some
      | none => some none
    | none => none
  | _, _ => none
section
variable {F : Fr} {os : Os} {as : SA} {H : Hp}
theorem im_keys {G : Cxt} {rs : List Addr} {B : Bn} : ∀ {us : List U} {vs : List V} {ks : List Key}, keysU us = some ks → imAll G rs B us vs H → vs = ks.map kV
  | [], _, _, e, h => by cases e; exact h
  | u :: us, _, ks, e, ⟨v, r, ev, h1, h2⟩ => by
    unfold keysU at e
    cases e1 : keyU u with
    | none => rw [e1] at e; cases e
    | some k =>
      cases e2 : keysU us with
      | none => rw [e1, e2] at e; cases e
      | some ks' =>
        rw [e1, e2] at e
        cases e
        rw [ev, im_key e1 h1, im_keys e2 h2]; rfl
theorem rd_get {d k : U} {dv kv : V} {r : Option U} (e : getU d k = some r) (hd : rd F os as d dv H) (hk : rd F os as k kv H) : ∃ a o, dv = .ref a ∧ IsD H a ∧ DGet H a kv o ∧ match r with
    | some u => ∃ v, o = some v ∧ im F.G (rts as) (ban F os as) u v H
    | none => o = none := by
  cases d with
  | dct ks us =>
    obtain ⟨a, vs, e1, n, e3, l, hv⟩ := hd
    simp only [getU] at e
    cases ek : keyU k with
    | none => rw [ek] at e; cases e
    | some key =>
      rw [ek] at e
      simp only at e
      have ekv : kv = kV key := by
        have hk0 := rd_im0 hk
        exact im_key ek hk0
      cases ei : idxK key ks with
      | none =>
        rw [ei] at e
        cases e
        exact ⟨a, none, e1, .inl ⟨_, e3⟩, .inl ⟨_, key, e3, ekv, (idxK_none ei).symm⟩, rfl⟩
      | some j =>
        rw [ei] at e
        simp only at e
        obtain ⟨u, eu, rfl⟩ := Option.map_eq_some_iff.mp e
        obtain ⟨v, ev, pv⟩ := imAll_get hv eu
        exact ⟨a, some v, e1, .inl ⟨_, e3⟩, .inl ⟨_, key, e3, ekv, (idxK_val ei ev).symm⟩, v, rfl, pv⟩
  | dcT ks us =>
    obtain ⟨a, vs, e1, n, e3, l, hv⟩ := hd
    simp only [getU] at e
    cases k with
    | tup kus =>
      simp only [tkeyU] at e
      cases ek : keysU kus with
      | none => rw [ek] at e; cases e
      | some key =>
        rw [ek] at e
        simp only at e
        obtain ⟨b, ws, eb, hb, hw⟩ := hk
        have ekv := im_keys ek hw
        rw [ekv] at hb
        cases ei : idxK key ks with
        | none =>
          rw [ei] at e
          cases e
          exact ⟨a, none, e1, .inr ⟨_, e3⟩, .inr ⟨_, key, b, e3, eb, hb, (idxK_none ei).symm⟩, rfl⟩
        | some j =>
          rw [ei] at e
          simp only at e
          obtain ⟨u, eu, rfl⟩ := Option.map_eq_some_iff.mp e
          obtain ⟨v, ev, pv⟩ := imAll_get hv eu
          exact ⟨a, some v, e1, .inr ⟨_, e3⟩, .inr ⟨_, key, b, e3, eb, hb, (idxK_val ei ev).symm⟩, v, rfl, pv⟩
    | _ => cases e
  | _ => cases e
end
def getD2 (d k z : U) : Option U := (getU d k).map fun r => r.getD z
section
variable {F : Fr} {δ : Dl} {td ty tx ta tb : TE} {wd wk wx wa wb : M U}
theorem ev_dget2 (hd : EvR F td δ wd) (hk : EvR F ty δ wk) (hx : EvW F tx δ wx) : EvW F (tDGet2 td ty tx) δ (.bind wd fun d => .bind wk fun k => .bind wx fun z => .o (getD2 d k z)) := fun os as st γ σ H c st' S q QQ kk => by
  obtain ⟨d, st1, q1, q2⟩ := M.bind_inv q
  obtain ⟨k, st2, q3, q4⟩ := M.bind_inv q2
  obtain ⟨z, st3, q5, q6⟩ := M.bind_inv q4
  obtain ⟨e, rfl⟩ := M.o_inv q6
  clear q q2 q4
  obtain ⟨r, er, ec⟩ := Option.map_eq_some_iff.mp e
  refine hd os as st γ σ H d _ S q1 _ fun dv H1 as1 g1 S1 pd => ?_
  have isd : ∃ a, dv = .ref a ∧ IsD H1 a := by
    cases d with
    | dct ks us => obtain ⟨a, vs, e1, n, e3, _⟩ := pd; exact ⟨a, e1, .inl ⟨_, e3⟩⟩
    | dcT ks us => obtain ⟨a, vs, e1, n, e3, _⟩ := pd; exact ⟨a, e1, .inr ⟨_, e3⟩⟩
    | _ => cases er
  obtain ⟨a, ea, hi⟩ := isd
  refine ⟨a, ea, hi, hk os as1 st1 γ σ H1 k _ S1 q3 _ fun kv H2 as2 g2 S2 pk => hx os as2 st2 γ σ H2 z _ S2 q5 _ fun zv H3 as3 g3 S3 pz => ?_⟩
  obtain ⟨a', o, ea', _, hg, hm⟩ := rd_get er (rd_go g3 (rd_go g2 pd)) (rd_go g3 pk)
  rw [ea] at ea'
  cases ea'
  refine ⟨o, hg, kk _ H3 as3 ((g1.trans g2).trans g3) S3 ?_⟩
  subst ec
  cases r with
  | none => rw [show o = none from hm]; exact pz
  | some u => obtain ⟨v, rfl, pv⟩ := hm; exact pv
def inU (k d : U) : Option U := (getU d k).map fun r => .bl r.isSome
def notInU (k d : U) : Option U := (getU d k).map fun r => .bl (!r.isSome)
def itemU (d k : U) : Option U := (getU d k).join
def absU : U → Option U
  | .int i => some (.int (if i < 0 then -i else i))
  | _ => none
def int1U : U → Option U
  | .int i => some (.int i)
  | .bl b => some (.int (if b then 1 else 0))
  | _ => none
def min2U : U → U → Option U
  | .int i, .int j => some (.int (if j < i then j else i))
  | _, _ => none
theorem ok_abs {r : List V → Hp → VK → Prop} (hr : ∀ (i : Int) (H : Hp) (Q : VK), Q (.int (if i < 0 then -i else i)) H → r [.int i] H Q) : Op1Ok F r absU := fun os as H a c x ok ha e QQ k => by
  cases a <;> simp [absU] at e
  subst e
  rw [show x = _ from ha]
  exact hr _ _ _ (k _ H (Ex.refl H) rfl)
theorem ok_int1 {r : List V → Hp → VK → Prop} (hr : ∀ (i : Int) (H : Hp) (Q : VK), Q (.int i) H → r [.int i] H Q) (hb : ∀ (b : Bool) (H : Hp) (Q : VK), Q (.int (if b then 1 else 0)) H → r [.bl b] H Q) : Op1Ok F r int1U := fun os as H a c x ok ha e QQ k => by
  cases a <;> simp [int1U] at e
  · subst e
    rw [show x = _ from ha]
    exact hb _ _ _ (k _ H (Ex.refl H) rfl)
  · subst e
    rw [show x = _ from ha]
    exact hr _ _ _ (k _ H (Ex.refl H) rfl)
theorem ev_cb2 {r : List V → Hp → VK → Prop} {f : U → U → Option U} (h : ∀ os as H a b c x y, rd F os as a x H → rd F os as b y H → f a b = some c → ∀ QQ : VK, (∀ v H', Ex H H' → im F.G (rts as) (ban F os as) c v H' → QQ v H') → r [x, y] H QQ) (ha : EvR F ta δ wa) (hb : EvR F tb δ wb) : EvW F (tCB r (tCons ta (tCons tb tNil))) δ (op2 f wa wb) := fun os as st γ σ H c st' S q QQ k => by
  obtain ⟨a, st1, qa, q1⟩ := M.bind_inv q
  obtain ⟨b, st2, qb, q2⟩ := M.bind_inv q1
  obtain ⟨e, rfl⟩ := M.o_inv q2
  exact ha os as st γ σ H a st1 S qa _ fun x H1 as1 g1 S1 px => hb os as1 st1 γ σ H1 b _ S1 qb _ fun y H2 as2 g2 S2 py => h os as2 H2 a b c x y (rd_go g2 px) py e QQ fun v H3 e3 p3 => k v H3 as2 ((g1.trans g2).trans (Go.of_ex e3)) (S2.ex e3) p3
theorem ev_min2 (ha : EvR F ta δ wa) (hb : EvR F tb δ wb) : EvW F (tCB (fun xs H Q => ∃ i j, xs = [.int i, .int j] ∧ Q (.int (if j < i then j else i)) H) (tCons ta (tCons tb tNil))) δ (op2 min2U wa wb) := ev_cb2 (fun os as H a b c x y px py e QQ k => by
  cases a <;> cases b <;> simp [min2U] at e
  subst e
  exact ⟨_, _, by rw [show x = _ from px, show y = _ from py], k _ H (Ex.refl H) rfl⟩) ha hb
end
end UX

set_option Elab.async false
set_option linter.all false
set_option maxRecDepth 100000
set_option maxHeartbeats 4000000
set_option autoImplicit false
namespace UX
open PySem PySem.Spec PyProof.Rows L2
open EL (Ex RB BOk Bn TK FnG okG rEqU rNeU)
section
variable {F : Fr} {S L : Type} {δ : Dl} {t2 : TS} {δn : S → Dl} {δl : L → Dl}
end
section
variable {F : Fr} {δ : Dl} {tt : TT} {te : TE}
theorem lcp2 {i j : Nat} {vs : List Nat} {wt : U → U → M Bool} {we : U → U → M U} (hi : i ∈ vs) (hj : j ∈ vs) (h : ∀ a b, EvT F tt ((δ.set i (some (.im a))).set j (some (.im b))) (wt a b) ∧ EvW F te ((δ.set i (some (.im a))).set j (some (.im b))) (we a b)) :
    ∀ u st r, un2 u wt st = some r → ∃ δ', TgOk F (gTup F.G.K 2 (gCons (gName i) (gCons (gName j) gNil))) vs δ u δ' ∧ EvT F tt δ' (un2 u wt) ∧ EvW F te δ' (un2 u we) := by
  intro u st r e
  cases u with
  | tup us => ?_
  | _ => cases e
  match us, e with
  | [a, b], e => exact ⟨_, tg_two hi hj, h a b⟩
end
end UX

set_option Elab.async false
set_option linter.all false
set_option maxRecDepth 100000
set_option maxHeartbeats 4000000
set_option autoImplicit false
namespace UX
open PySem PySem.Spec PyProof.Rows L2
open EL (Ex RB BOk Bn TK FnG okG rEqU rNeU)
def zipL (a b : List U) : List U := List.zipWith (fun x y => U.tup [x, y]) a b
def zipU : U → U → Option (List U)
  | .lst a, .lst b => some (zipL a b)
  | .tup a, .tup b => some (zipL a b)
  | _, _ => none
def zipW (w w' : M U) : M (List U) := .bind w fun u => .bind w' fun u' => .o (zipU u u')
theorem zipL_len (a b : List U) : (zipL a b).length = min a.length b.length := List.length_zipWith
theorem zipL_get {a b : List U} {i : Nat} {u : U} (h : (zipL a b)[i]? = some u) : ∃ x y, a[i]? = some x ∧ b[i]? = some y ∧ u = .tup [x, y] := by
  unfold zipL at h
  rw [List.getElem?_zipWith] at h
  cases ea : a[i]? with
  | none => rw [ea] at h; cases h
  | some x =>
    cases eb : b[i]? with
    | none => rw [ea, eb] at h; cases h
    | some y => rw [ea, eb] at h; cases h; exact ⟨x, y, rfl, rfl, rfl⟩
section
variable {F : Fr} {δ : Dl} {te ta tb : TE} {w wa wb : M U}
theorem zip_pair {os : Os} {as : SA} {x y : U} {v v' : V} {H : Hp} {T : Addr} (hT : H T = none) (hx : im F.G (rts as) (ban F os as) x v H) (hy : im F.G (rts as) (ban F os as) y v' H) : im F.G (rts as) (ban F os as) (.tup [x, y]) (.ref T) (upd H T (.tup [v, v'])) :=
  ⟨T, [v, v'], rfl, upd_same, v, [v'], rfl, im_st (RB.of_ex (Ex.new hT)) _ _ hx, v', [], rfl, im_st (RB.of_ex (Ex.new hT)) _ _ hy, rfl⟩
theorem src_zip (ha : EvW F ta δ wa) (hb : EvW F tb δ wb) : Src F (RZ.iZipA F.G.K (tCons ta (tCons tb tNil))) δ (zipW wa wb) := fun os as st γ σ H us st' S q Q k => by
  obtain ⟨u, st1, qu, q1⟩ := M.bind_inv q
  obtain ⟨u', st2, qu', q2⟩ := M.bind_inv q1
  obtain ⟨e, rfl⟩ := M.o_inv q2
  refine ha os as st γ σ H _ _ S qu _ fun v H1 as1 g1 S1 p1 => ?_
  have S1' : SDo F os as1 st1 ([(u, v)] ++ γ) H1 σ δ := S1.ghost fun z m => by rw [List.mem_singleton] at m; rw [m]; exact p1
  refine hb os as1 st1 _ σ H1 _ _ S1' qu' _ fun v' H2 as2 g2 S2 p2 => ?_
  have S3 : SDo F os as2 st' ([(u', v')] ++ ([(u, v)] ++ γ)) H2 σ δ := S2.ghost fun z m => by rw [List.mem_singleton] at m; rw [m]; exact p2
  have pu : im F.G (rts as2) (ban F os as2) u v H2 := S2.gh (u, v) List.mem_cons_self
  have G3 : SDo F os as2 st' ([(u', v'), (u, v)] ++ γ) H2 σ δ := S3
  clear S1 S1' S2 S3 q q1 q2
  cases u <;> cases u' <;> simp [zipU] at e
  · subst e
    obtain ⟨a, vs, rfl, hs, hv⟩ := id pu
    obtain ⟨b, ws, rfl, hs', hv'⟩ := id p2
    refine ⟨a, b, vs, ws, rfl, .inr ⟨EL.sqT_of hs, EL.sqT_of hs', k _ H2 as2 _ (g1.trans g2) G3 ⟨fun i os as st γ σ δ H hi S2 => ?_, fun os as st γ σ δ H S2 => ?_, fun i os as st γ σ δ x H H' z e S2 y => ?_⟩⟩⟩ <;> obtain ⟨a2, vs2, ev2, ht, hv2⟩ := S2.gh _ (List.mem_cons_of_mem _ List.mem_cons_self) <;> obtain ⟨b2, ws2, ev3, ht', hv3⟩ := S2.gh _ List.mem_cons_self <;> cases ev2 <;> cases ev3
    · rw [zipL_len] at hi
      have h1 : i < vs2.length := by rw [imAll_len hv2]; omega
      have h2 : i < ws2.length := by rw [imAll_len hv3]; omega
      exact ⟨vs2, ws2, vs2[i], ws2[i], EL.sqT_of ht, EL.sqT_of ht', List.getElem?_eq_getElem h1, List.getElem?_eq_getElem h2⟩
    · refine ⟨vs2, ws2, EL.sqT_of ht, EL.sqT_of ht', ?_⟩
      rw [zipL_len, imAll_len hv2, imAll_len hv3]
      omega
    · obtain ⟨T, x1, x2, rfl, hT, rfl, f1, f2⟩ := y
      obtain ⟨c, d, e1, e2, rfl⟩ := zipL_get e
      obtain ⟨y1, e3, p3⟩ := imAll_get hv2 e1
      obtain ⟨y2, e4, p4⟩ := imAll_get hv3 e2
      rw [f1 _ (EL.sqT_of ht)] at e3
      rw [f2 _ (EL.sqT_of ht')] at e4
      cases e3; cases e4
      exact ⟨Ex.new hT, zip_pair hT p3 p4⟩
  · subst e
    obtain ⟨a, vs, rfl, nb, hs, hv⟩ := id pu
    obtain ⟨b, ws, rfl, nb', hs', hv'⟩ := id p2
    refine ⟨a, b, vs, ws, rfl, .inl ⟨EL.sqL_of hs, EL.sqL_of hs', k _ H2 as2 _ (g1.trans g2) G3 ⟨fun i os as st γ σ δ H hi S2 => ?_, fun os as st γ σ δ H S2 => ?_, fun i os as st γ σ δ x H H' z e S2 y => ?_⟩⟩⟩ <;> obtain ⟨a2, vs2, ev2, n2, ht, hv2⟩ := S2.gh _ (List.mem_cons_of_mem _ List.mem_cons_self) <;> obtain ⟨b2, ws2, ev3, n3, ht', hv3⟩ := S2.gh _ List.mem_cons_self <;> cases ev2 <;> cases ev3
    · rw [zipL_len] at hi
      have h1 : i < vs2.length := by rw [imAll_len hv2]; omega
      have h2 : i < ws2.length := by rw [imAll_len hv3]; omega
      exact ⟨vs2, ws2, vs2[i], ws2[i], EL.sqL_of ht, EL.sqL_of ht', List.getElem?_eq_getElem h1, List.getElem?_eq_getElem h2⟩
    · refine ⟨vs2, ws2, EL.sqL_of ht, EL.sqL_of ht', ?_⟩
      rw [zipL_len, imAll_len hv2, imAll_len hv3]
      omega
    · obtain ⟨T, x1, x2, rfl, hT, rfl, f1, f2⟩ := y
      obtain ⟨c, d, e1, e2, rfl⟩ := zipL_get e
      obtain ⟨y1, e3, p3⟩ := imAll_get hv2 e1
      obtain ⟨y2, e4, p4⟩ := imAll_get hv3 e2
      rw [f1 _ (EL.sqL_of ht)] at e3
      rw [f2 _ (EL.sqL_of ht')] at e4
      cases e3; cases e4
      exact ⟨Ex.new hT, zip_pair hT p3 p4⟩
end
section
variable {F : Fr}
def un4 {α : Type} (u : U) (k : U → U → U → U → M α) : M α := match u with
  | .tup [a, b, c, d] => k a b c d
  | _ => .fail
def un5 {α : Type} (u : U) (k : U → U → U → U → U → M α) : M α := match u with
  | .tup [a, b, c, d, e] => k a b c d e
  | _ => .fail
section
variable {α : Type} {P : Dl → M α → Prop} {δ : Dl} {i0 i1 i2 i3 i4 i5 : Nat} {vs : List Nat}
end
end
section
variable {F : Fr} {S L : Type} {δ : Dl} {t2 : TS} {δn : S → Dl} {δl : L → Dl}
end
end UX

set_option Elab.async false
set_option linter.all false
set_option maxRecDepth 100000
set_option maxHeartbeats 4000000
set_option autoImplicit false
namespace UX
open PySem PySem.Spec PyProof.Rows L2
open EL (Ex RB BOk Bn TK FnG okG rEqU rNeU)
def vTab (at_ : Str → Addr) : U → Option V
  | .top x => some (.ref (at_ x))
  | .str s => some (.str s)
  | .int i => some (.int i)
  | _ => none
theorem vTab_im {G : Cxt} {rs : List Addr} {B : Bn} {H : Hp} : ∀ {u : U} {v : V}, vTab G.at_ u = some v → im G rs B u v H
  | .top x, _, e => by cases e; rfl
  | .str s, _, e => by cases e; rfl
  | .int s, _, e => by cases e; rfl
structure TabF (K : PySem.W.Frag) (at_ : Str → Addr) (w : World) (d : Addr) (tab : List (Str × U)) : Prop where
  kd : ∃ es n, KDict K w d es n
  val : ∀ z u, tab.lookup z = some u → ∃ u0 v, PySem.W.nsIn K d z = some (some u0) ∧ vTab at_ u = some v ∧ RelV v u0
  no : ∀ z, tab.lookup z = none → PySem.W.nsIn K d z = some none
def rNotTab (K : PySem.W.Frag) (d : Addr) : R2 := fun x y H Q => ∃ (z : Str) (r : Option Value), x = .str z ∧ y = .ref d ∧ PySem.W.nsIn K d z = some r ∧ Q (.bl (!r.isSome)) H
theorem op_notTab {X : Cx} {at_ : Str → Addr} {d : Addr} {tab : List (Str × U)} (T : TabF X.K at_ X.w d tab) : OpR X (compareOp .NotIn) (rNotTab X.K d) := by
  obtain ⟨es, n, D⟩ := T.kd
  exact op_notIn_kd D
def notTabU (nm : Str) (tab : List (Str × U)) : U → U → Option U
  | .str z, .top x => if x = nm then some (.bl (tab.lookup z).isNone) else none
  | _, _ => none
def itemTabU (nm : Str) (tab : List (Str × U)) : U → U → Option U
  | .top x, .str z => if x = nm then tab.lookup z else none
  | _, _ => none
section
variable {F : Fr} {w : World} {nm : Str} {tab : List (Str × U)} {δ : Dl}
theorem ev_top {x : Str} : EvW F (tC (.ref (F.G.at_ x))) δ (.ret (.top x)) := ev_c fun _ _ _ => rfl
theorem ok_notTab (T : TabF F.G.K F.G.at_ w (F.G.at_ nm) tab) : OpOk F (rNotTab F.G.K (F.G.at_ nm)) (notTabU nm tab) := fun os as H a b c x y ok ha hb e QQ k => by
  cases a <;> cases b <;> simp [notTabU] at e
  rename_i z _
  obtain ⟨rfl, rfl⟩ := e
  cases q : tab.lookup z with
  | none => exact ⟨z, none, ha, hb, T.no z q, k _ H (Ex.refl H) (by rw [q]; rfl)⟩
  | some u =>
    obtain ⟨u0, v, h1, _, _⟩ := T.val z u q
    exact ⟨z, some u0, ha, hb, h1, k _ H (Ex.refl H) (by rw [q]; rfl)⟩
theorem ok_itemTab (T : TabF F.G.K F.G.at_ w (F.G.at_ nm) tab) : OpOk F (rIxD F.G.K w) (itemTabU nm tab) := fun os as H a b c x y ok ha hb e QQ k => by
  cases a <;> cases b <;> simp [itemTabU] at e
  rename_i z
  obtain ⟨rfl, e⟩ := e
  obtain ⟨u0, v, h1, h2, h3⟩ := T.val z c e
  obtain ⟨es, n, D⟩ := T.kd
  exact ⟨_, z, v, ha, hb, ⟨es, n, u0, D.at_, D.lit, h1, h3⟩, k _ H (Ex.refl H) (vTab_im h2)⟩
end
def tCallJ (at_ : Str → Addr) (G : Cxt) (i : Nat) (fs : List (Str × (List U → M U))) (E : XK) (t : TA) : TE := fun σ H Q => ∃ p ∈ fs, tCallL i (at_ p.1) (spM G p.2) [] E t σ H Q
theorem pe_callJ {X : Cx} {at_ : Str → Addr} {G : Cxt} {i : Nat} {fs : List (Str × (List U → M U))} {E : XK} {t : TA} {e : Expr} (h : ∀ p ∈ fs, PE X e (tCallL i (at_ p.1) (spM G p.2) [] E t)) : PE X e (tCallJ at_ G i fs E t) :=
  ⟨fun pins s σ H Q I ⟨p, m, q⟩ => (h p m).run pins s σ H Q I q⟩
theorem callJ_nil {X : Cx} {at_ : Str → Addr} {G : Cxt} {i : Nat} {E : XK} {t : TA} {e : Expr} : ∀ p ∈ ([] : List (Str × (List U → M U))), PE X e (tCallL i (at_ p.1) (spM G p.2) [] E t) := fun _ m => nomatch m
theorem callJ_cons {X : Cx} {at_ : Str → Addr} {G : Cxt} {i : Nat} {E : XK} {t : TA} {e : Expr} {x : Str} {f : List U → M U} {l : List (Str × (List U → M U))} (h : PE X e (tCallL i (at_ x) (spM G f) [] E t)) (k : ∀ p ∈ l, PE X e (tCallL i (at_ p.1) (spM G p.2) [] E t)) : ∀ p ∈ (x, f) :: l, PE X e (tCallL i (at_ p.1) (spM G p.2) [] E t) := fun p m => (List.mem_cons.mp m).elim (fun z => z ▸ h) (k p)
def callJM (fs : List (Str × (List U → M U))) (u : U) (wa : M (List U)) : M U := match u with
  | .top x => match fs.lookup x with
    | some f => callM f wa
    | none => .fail
  | _ => .fail
theorem lookup_mem {α : Type} : ∀ {l : List (Str × α)} {x : Str} {a : α}, l.lookup x = some a → (x, a) ∈ l
  | [], _, _, h => nomatch h
  | (y, b) :: l, x, a, h => by
    rw [List.lookup_cons] at h
    split at h
    · rename_i e
      cases h
      rw [show x = y from by simpa using e]
      exact List.mem_cons_self
    · exact List.mem_cons_of_mem _ (lookup_mem h)
theorem ev_callJ {F : Fr} {δ : Dl} {i : Nat} {fs : List (Str × (List U → M U))} {E : XK} {ta : TA} {wa : M (List U)} {u : U} (hi : δ[i]? = some (some (.im u))) (h : EvAW F ta δ wa) : EvW F (tCallJ F.G.at_ F.G i fs E ta) δ (callJM fs u wa) := fun os as st γ σ H c st' S q QQ k => by
  obtain ⟨v, hv, pv⟩ := S.get hi
  cases u with
  | top x => ?_
  | _ => cases q
  have pv : v = .ref (F.G.at_ x) := pv
  subst pv
  simp only [callJM] at q
  cases e : fs.lookup x with
  | none => rw [e] at q; cases q
  | some f =>
    rw [e] at q
    exact ⟨(x, f), lookup_mem e, hv, ev_call (E := E) h os as st γ σ H c st' S q QQ k⟩
theorem pg_tupK {X : Cx} (K : PySem.W.Frag) {es : List Expr} {k : Nat} {t : TGs} {n : Nat} {pos : Pos} (hc : X.calm = true) (h : PGs X es t) (hn : (assignEach es X.env).length = n := by rfl) (hst : (assignEach es X.env).findIdx? (·.1) = none := by rfl) (hK : X.K = K := by rfl) : PG X (.Tuple es k pos) (gTup K n t) := hK ▸ pg_tup hc h hn hst
section
variable {F : Fr} {S L : Type} {δ : Dl} {t2 : TS} {δn : S → Dl} {δl : L → Dl}
end
end UX

set_option Elab.async false
set_option linter.all false
set_option maxRecDepth 100000
set_option maxHeartbeats 4000000
set_option autoImplicit false
namespace UX
open PySem PySem.Spec PyProof.Rows L2
section
variable {X : Cx} (K : PySem.W.Frag)
theorem pe_fldK {e : Expr} {ta : TE} {f : Str} {pos : Pos} (he : PE X e ta) (hb : attributeBase e f X.env (eval e X.env) = eval e X.env) (hK : X.K = K := by rfl) : PE X (.Attribute e f pos) (tFld K ta f) := hK ▸ pe_fld he hb
theorem pi_zipAK {e e2 : Expr} {ta : TA} {p pos tpos : Pos} {elts : List Expr} {kk : Nat} (hg : Gl X "zip") (hm : X.mg "zip" = none) (ha : PA X [e, e2] ta)
    (hs : starEach [e, e2] X.env = (false, eval e X.env) :: starEach [e2] X.env := by rfl) (hpl : (backTo pos (starEach [e2] X.env)).any (·.1) = false := by rfl) (hK : X.K = K := by rfl) :
    PI X (.Tuple elts kk tpos) (.Call (.Name "zip" p) [e, e2] [] pos) (RZ.iZipA K ta) := hK ▸ RZ.pi_zipA hg hm ha hs hpl
theorem ix_kdictK (w : World) (hK : X.K = K := by rfl) (hw : X.w = w := by rfl) : IxR X (rIxD K w) := hK ▸ hw ▸ ix_kdict
theorem op_notTabK {at_ : Str → Addr} {w : World} {d : Addr} {tab : List (Str × U)} (T : TabF K at_ w d tab) (hK : X.K = K := by rfl) (hw : X.w = w := by rfl) : OpR X (compareOp .NotIn) (rNotTab K d) := by
  subst hK hw
  exact op_notTab T
end
open EL (Ex RB BOk Bn TK FnG okG rEqU rNeU)
section
variable {F : Fr} {S L : Type} {δ : Dl} {wi : TI} {g : TG} {tb t1 t2 : TS} {wl : M (List U)} {δ2 δl' : L → Dl} {tt : TT} {wt : M Bool}
theorem blk_forL (dr vs : List Nat) (δl : S → Dl) {f : U → S → M (Out S S)} {s0 : S} (h0 : wipD δ dr = δl s0) (hs : Src F wi δ wl)
    (hb : ∀ s u st r, f u s st = some r → ∃ δ', TgOk F g vs (δl s) u δ' ∧ Blk F tb δ' (f u s) δl δl) : Blk F (tFor wi g tb) δ (.bind wl fun us => forO f us s0) δl δ2 :=
  blk_for (vs := vs) hs (h0 ▸ weak_wip δ dr) fun u s => hb s u
theorem blk_ifL (δn : S → Dl) {wo wu : M (Out S L)} (h : EvT F tt δ wt) (h1 : Blk F t1 δ wo δn δl') (h2 : Blk F t2 δ wu δn δl') : Blk F (tIfS tt t1 t2) δ (iteW wt wo wu) δn δl' := blk_if h h1 h2
end
end UX

set_option Elab.async false
set_option linter.all false
set_option maxRecDepth 100000
set_option maxHeartbeats 4000000
namespace UX
open PySem PySem.Spec PyProof.Rows L2
section
variable {P : Program} {w : World} {A : Around} {E : Value → Shared → Prop} {s : Shared}
abbrev set0 (w : World) : Obj := { cls := .type "set", dict := none, data := .set #[] 0 (.fresh 0 0 (!w.params.followText "set-order")) }
end
end UX

set_option Elab.async false
set_option linter.all false
set_option maxRecDepth 100000
set_option maxHeartbeats 4000000
set_option autoImplicit false
namespace UX
open PySem PySem.Spec PyProof.Rows L2
open EL (Ex RB BOk Bn TK)
def B0 : Int := 1099511627776
def intsL : List U → Option (List Int)
  | [] => some []
  | .int i :: r => (intsL r).map (i :: ·)
  | _ => none
def tupI (ns : List Int) : U := .tup (ns.map .int)
def RowsOk (d : Nat) (L : List (List Int)) : Prop := 1 ≤ d ∧ L.length < 64 ∧ ∀ ns ∈ L, ns.length = d ∧ TS.Bd B0 ns
instance (d : Nat) (L : List (List Int)) : Decidable (RowsOk d L) := by unfold RowsOk TS.Bd; infer_instance
theorem nodup_perm {α : Type} [DecidableEq α] : ∀ {l l' : List α}, l.Nodup → l'.Nodup → (∀ x, x ∈ l ↔ x ∈ l') → l.Perm l'
  | [], l', _, _, h => by
    cases l' with
    | nil => exact .nil
    | cons y r => exact absurd ((h y).mpr List.mem_cons_self) (fun z => nomatch z)
  | x :: r, l', n, n', h => by
    have hx : x ∈ l' := (h x).mp List.mem_cons_self
    have hp : l'.Perm (x :: l'.erase x) := List.perm_cons_erase hx
    have n1 : (x :: l'.erase x).Nodup := hp.nodup n'
    refine ((nodup_perm (List.nodup_cons.mp n).2 (List.nodup_cons.mp n1).2 fun y => ?_).cons x).trans hp.symm
    have h1 := (List.nodup_cons.mp n).1
    have h2 := (List.nodup_cons.mp n1).1
    constructor
    · intro m
      have : y ∈ x :: l'.erase x := hp.mem_iff.mp ((h y).mp (List.mem_cons_of_mem _ m))
      rcases List.mem_cons.mp this with e | e
      · exact absurd (e ▸ m) h1
      · exact e
    · intro m
      have : y ∈ x :: r := (h y).mpr (hp.mem_iff.mpr (List.mem_cons_of_mem _ m))
      rcases List.mem_cons.mp this with e | e
      · exact absurd (e ▸ m) h2
      · exact e
section
variable {G : Cxt} {rs : List Addr} {B : Bn} {H H' : Hp}
theorem im_ints : ∀ {ns : List Int}, imAll G rs B (ns.map U.int) (ns.map V.int) H
  | [] => rfl
  | n :: ns => ⟨.int n, ns.map V.int, rfl, rfl, im_ints⟩
end
section
variable {F : Fr}
end
end UX

set_option Elab.async false
set_option linter.all false
set_option maxRecDepth 100000
set_option maxHeartbeats 4000000
set_option autoImplicit false
namespace UX
open PySem PySem.Spec PyProof.Rows L2
open EL (Ex RB BOk Bn TK)
abbrev Vls : Type := (PySem.W.Frag → Addr) × List (Str × He.Dv)
abbrev AlU : Type := He.AlT × Bool
def obsU (fa : List He.Fa) (fn : List He.DefD) (ts : List He.Tab) (vs : List Vls) (K : PySem.W.Frag) : AlU := (He.obsT fa fn ts K, vs.all fun q => He.valsB K (q.1 K) q.2)
def valU (fn : List He.DefD) (ts : List He.Tab) (w : World) : AlU := (He.valT fn ts w, true)
def obsUG (n : Nat) (fa : List He.Fa) (fn : List He.DefD) (ts : List He.Tab) (vs : List Vls) (g : Addr → Option Obj) : AlU := obsU fa fn ts vs (He.frG g (He.asD g n))
def SaysU (fa : List He.Fa) (fn : List He.DefD) (ts : List He.Tab) (vs : List Vls) (w : World) (K : PySem.W.Frag) : Prop := obsU fa fn ts vs K = valU fn ts w
def hookU (n : Nat) (fa : List He.Fa) (fn : List He.DefD) (ts : List He.Tab) (vs : List Vls) : PySem.W.Hook where
  α := AlU
  obs := fun s => obsUG n fa fn ts vs s.heap.get?
  val := fun w => valU fn ts w
  says := fun w h => ∃ K : PySem.W.Frag, K.In h ∧ SaysU fa fn ts vs w K
  of := fun _ _ e => ⟨_, He.frG_in, e⟩
  keeps := fun _ _ _ ⟨K, hK, c⟩ k => ⟨K, PySem.W.Frag.In.keeps hK k, c⟩
theorem obsUG_eq {n : Nat} {fa : List He.Fa} {fn : List He.DefD} {ts : List He.Tab} {vs : List Vls} {g : Addr → Option Obj} {s : Shared} (h : ∀ a, g a = s.heap.get? a) : obsUG n fa fn ts vs g = (hookU n fa fn ts vs).obs s := by
  obtain rfl : g = s.heap.get? := funext h
  rfl
section
variable {fa : List He.Fa} {fn : List He.DefD} {ts : List He.Tab} {vs : List Vls} {w : World} {K : PySem.W.Frag}
theorem SaysU.t (c : SaysU fa fn ts vs w K) : He.SaysT fa fn ts w K := congrArg (fun z : AlU => z.1) c
theorem SaysU.d (c : SaysU fa fn ts vs w K) : He.SaysD fa fn K := c.t.d
theorem SaysU.val (c : SaysU fa fn ts vs w K) (i : Nat) {q : Vls} (h : vs[i]? = some q) : He.valsB K (q.1 K) q.2 = true :=
  List.all_eq_true.mp (show (vs.all fun q => He.valsB K (q.1 K) q.2) = true from congrArg (fun z : AlU => z.2) c) q (List.mem_of_getElem? h)
theorem SaysU.keys (c : SaysU fa fn ts vs w K) (i : Nat) {t : He.Tab} (h : ts[i]? = some t) : He.dicW K (t.1 K) = some (He.keysIn w.params t.2) := by
  have e : ts.map (fun t => He.dicW K (t.1 K)) = ts.map fun t => some (He.keysIn w.params t.2) := congrArg (fun z : He.AlT => z.2) c.t
  have e2 : (ts.map fun t => He.dicW K (t.1 K))[i]? = (ts.map fun t => some (He.keysIn w.params t.2))[i]? := by rw [e]
  rw [List.getElem?_map, List.getElem?_map, h] at e2
  exact Option.some.inj e2
end
theorem keys_no {P : Params} {z : Str} : ∀ {l : List DictEntry} {ks : List Str}, l.map He.keyOf = He.keysIn P ks → z ∉ ks → l.find? (·.key.isStr z) = none ∧ l.any (·.refKey) = false
  | [], _, _, _ => ⟨rfl, rfl⟩
  | e :: r, [], h, _ => by cases h
  | e :: r, k :: ks, h, n => by
    have h1 : He.keyOf e :: r.map He.keyOf = some (k, PyData.keyHash P k) :: He.keysIn P ks := h
    injection h1 with h2 h3
    obtain ⟨i1, i2⟩ := keys_no h3 fun m => n (List.mem_cons_of_mem _ m)
    unfold He.keyOf at h2
    split at h2
    · rename_i x t q
      have h4 := Option.some.inj h2
      have hx : x = k := congrArg Prod.fst h4
      have nz : ¬ x = z := fun e => n (by rw [← hx, e]; exact List.mem_cons_self)
      constructor
      · rw [List.find?_cons, show e.key.isStr z = false by rw [q]; simp [Value.isStr, nz]]
        exact i1
      · rw [List.any_cons, show e.refKey = false by simp [DictEntry.refKey, q], Bool.false_or]
        exact i2
    · cases h2
theorem nsIn_no {K : PySem.W.Frag} {w : World} {a : Addr} {ks : List Str} {z : Str} (h : He.dicW K a = some (He.keysIn w.params ks)) (n : z ∉ ks) : PySem.W.nsIn K a z = some none := by
  obtain ⟨es, m, D⟩ := He.dicW_ok h
  unfold He.dicW at h
  rw [D.at_] at h
  simp only at h
  split at h
  · obtain ⟨h1, h2⟩ := keys_no (Option.some.inj h) n
    unfold PySem.W.nsIn
    rw [D.at_]
    simp only [h1, h2]
    rfl
  · cases h
def dvU : U → He.Dv
  | .top x => .glo x
  | .str s => .str s
  | .int i => .int i
  | _ => .non
theorem tabF {K : PySem.W.Frag} {w : World} {x : Str} {tab : List (Str × U)} (h1 : He.dicW K (He.ga K x) = some (He.keysIn w.params (tab.map (·.1)))) (h2 : He.valsB K (He.ga K x) (tab.map fun p => (p.1, dvU p.2)) = true) (h3 : ∀ p ∈ tab, (vTab (He.ga K) p.2).isSome = true) : TabF K (He.ga K) w (He.ga K x) tab := by
  refine ⟨He.dicW_ok h1, fun z u e => ?_, fun z e => nsIn_no h1 fun m => ?_⟩
  · have m := lookup_mem e
    obtain ⟨u0, q1, q2⟩ := He.valsB_ok h2 (List.mem_map_of_mem (f := fun p : Str × U => (p.1, dvU p.2)) m)
    have hs := h3 _ m
    cases u with
    | top y => exact ⟨u0, _, q1, rfl, q2⟩
    | str y => exact ⟨u0, _, q1, rfl, q2⟩
    | int y => exact ⟨u0, _, q1, rfl, q2⟩
    | _ => cases hs
  · obtain ⟨p, mp, rfl⟩ := List.mem_map.mp m
    have key : ∀ {l : List (Str × U)} {p : Str × U}, p ∈ l → l.lookup p.1 ≠ none := by
      intro l
      induction l with
      | nil => intro p m; cases m
      | cons q l ih =>
        intro p m
        rw [List.lookup_cons]
        split
        · exact fun z => nomatch z
        · rename_i hne
          rcases List.mem_cons.mp m with e | e
          · rw [e] at hne; simp at hne
          · exact ih e
    exact key mp e
theorem allN {α : Type} {P : α → Prop} : ∀ c ∈ ([] : List α), P c := fun _ m => nomatch m
theorem allC {α : Type} {P : α → Prop} {a : α} {l : List α} (h : P a) (k : ∀ c ∈ l, P c) : ∀ c ∈ a :: l, P c := fun c m => (List.mem_cons.mp m).elim (fun e => e ▸ h) (k c)
theorem sp_law {K : PySem.W.Frag} {at_ : Str → Addr} {f : U → M U} (hf : ∀ ns : List Int, ns.length ≤ 63 → ∃ st', f (.frl (ns.map .int)) [] = some (.ok (.bl true), st')) {H : Hp} {a : Addr} {ns : List Int} (hl : ns.length ≤ 63) (hS : SqL K H a (ns.map V.int)) :
    spM ⟨K, at_⟩ (L1 f) [.ref a] H (fun v _ => v = .bl true) fun _ _ _ => False := by
  obtain ⟨st', e⟩ := hf ns hl
  exact ⟨fun _ => False, [], [], [.frl (ns.map .int)], .bl true, st', fun a b => (by rcases b with b | b | b; exact b.elim; cases b; cases b), List.nodup_nil, (fun _ _ z => z), trivial, ⟨.ref a, [], rfl, ⟨a, ns.map V.int, rfl, FrL.of (fun b => by rcases b with b | b | b; exact b; cases b; cases b) hS, im_ints⟩, rfl⟩, e, fun as' v H' r => r.im⟩
end UX

set_option Elab.async false
set_option linter.all false
set_option maxRecDepth 100000
set_option maxHeartbeats 4000000
set_option autoImplicit false
namespace UY
open PySem PySem.Spec PyProof.Rows L2
open UX (getElem?_lt)
section
theorem en_new {v : Value} {ob : Obj} {G : Heap → Prop} (B : Begins v ob G) :
    Meets (Builtin.«enumerate.__new__» ⟨[.type "enumerate", v], []⟩) (fun _ R s => G s.heap ∧
      R (.ok (.ret (.ref (s.heap.push ob).objs.size))) { s with heap := (s.heap.push ob).push { cls := .type "enumerate", data := .fields #[.none, .bool false, .ref s.heap.objs.size, rawInt 0, .none, .none] } }) :=
  .of_wp fun prog w A R s h => by
    obtain ⟨hp, g, d, tk, os⟩ := s
    obtain ⟨g1, h⟩ := h
    have hsb := sub_enumerate
    have it1 : ∀ {A' : Around} {E : Value → Shared → Prop} {Q : Value → Shared → Prop}, Q (.ref hp.objs.size) ⟨hp.push ob, g, d, tk, os⟩ → wpAny (model prog w) A' (pyIter v) Q E ⟨hp, g, d, tk, os⟩ :=
      fun z => B.iter prog w _ _ ⟨hp, g, d, tk, os⟩ _ g1 z
    wp_walk using it1
    refine wpAny_stack_any fun sk => wpAny_pure ?_
    split
    · rename_i c _ _ _ _ _
      cases (c == Value.type "enumerate") <;> (wp_walk using it1; exact ⟨_, rfl, h⟩)
    · wp_walk using it1
      exact ⟨_, rfl, h⟩
variable {prog : Program} {w : World} {A : Around} {E : Value → Shared → Prop} {s : Shared}
theorem en_call {v : Value} {ob : Obj} {G : Heap → Prop} {Q : Value → Shared → Prop} (B : Begins v ob G) (g1 : G s.heap)
    (k : ∀ hp, IsEnum hp (s.heap.objs.size + 1) s.heap.objs.size 0 .none → hp.get? s.heap.objs.size = some ob → hp.objs.size = s.heap.objs.size + 2 → (∀ b u, s.heap.get? b = some u → hp.get? b = some u) → Q (.ref (s.heap.objs.size + 1)) { s with heap := hp }) :
    wpAny (model prog w) A (call (.type "enumerate") [v]) Q E s := by
  have sz : (s.heap.push ob).objs.size = s.heap.objs.size + 1 := Heap.size_push ..
  refine callType_new F.called_enumerate (by decide) (F.typeCall_enumerate_1 _) (F.newCall_enumerate_1 _) (fun x => F.args_object_init_2 x _) F.entry_enumerate_new (en_new B) ⟨g1, ?_⟩
  have z := Heap.get?_push_size (s.heap.push ob) (o := { cls := .type "enumerate", data := .fields #[.none, .bool false, .ref s.heap.objs.size, rawInt 0, .none, .none] }) rfl
  rw [sz] at z
  show _ ∧ _
  rw [sz]
  exact ⟨⟨_, z, rfl⟩, k _ z (Heap.get?_push_of_some _ (Heap.get?_push_size _ B.free)) (by rw [Heap.size_push, sz]) fun b u q => Heap.get?_push_of_some _ (Heap.get?_push_of_some _ q)⟩
end
def ItE (K : PySem.W.Frag) (a : Addr) : It := ⟨fun i H => ∃ (xs : List V) (x : V), SqT K H a xs ∧ xs[i]? = some x, fun i H v H' => ∃ T x, v = .ref T ∧ H T = none ∧ H' = upd H T (.tup [.int (i : Nat), x]) ∧ (∀ xs, SqT K H a xs → xs[i]? = some x), fun i H => ∃ xs : List V, SqT K H a xs ∧ xs.length = i⟩
theorem turn_en {P : Program} {w : World} {K : PySem.W.Frag} {elts : List Expr} {kk : Nat} {tpos : Pos} {a e it : Addr} (n1 : e ≠ it) (n2 : e ≠ a) (n3 : a ≠ it) :
    Turn P w K (.Tuple elts kk tpos) (ItE K a) [e, it] e (fun i h => (∃ old, IsEnum h e it ((i : Nat) : Int) old) ∧ h.IsTupleIter it a i) where
  mem := by simp
  obj := fun i h st b hb => by
    obtain ⟨⟨old, he⟩, ⟨o, ho, hc, hd⟩⟩ := st
    rcases (show b = e ∨ b = it by simpa using hb) with rfl | rfl
    · exact ⟨_, he, fun v q => nomatch q⟩
    · exact ⟨o, ho, fun v q => by rw [hd] at q; cases q⟩
  keep := fun i h h' st k => by
    obtain ⟨⟨old, he⟩, hi⟩ := st
    exact ⟨⟨old, k e (by simp) _ he⟩, hi.at fun o q => k it (by simp) o q⟩
  item := by
    intro X hP hw hK hc i pins s σ H E I hf st hg
    subst hP hw hK
    obtain ⟨⟨old, he⟩, hi⟩ := st
    obtain ⟨xs, x, hq, hx⟩ := hg
    obtain ⟨its, rv, p, hz⟩ := I.tuple hq
    obtain ⟨u, hu, ru⟩ := rv.get hx
    have le : e < s.heap.objs.size := Heap.lt_size he
    have li : it < s.heap.objs.size := by obtain ⟨_, q, _⟩ := hi; exact Heap.lt_size q
    have hlt : i < its.toArray.size := by
      have := getElem?_lt hu
      simpa using this
    refine wpAny_pyNext_enum_itemC (Draws.tuple (A := X.A.in1) (show X.A.in1.handled = none from I.ok.hd hc) it a n3 its.toArray) he (i := i) ⟨hi, p⟩ hlt n1 (by simp [n1, n2]) fun y hp tk hy ho hs hT hsz hk => ?_
    have ey : y = u := by
      have h1 : its[i]? = some y := by simpa using hy
      rw [hu] at h1
      exact (Option.some.inj h1).symm
    subst ey
    refine ⟨_, rfl, wpAny_letOwnedTupleGo_enum (s := { s with heap := hp, toks := tk + 1 }) ho fun hp' he' sb => ?_⟩
    have hT2 : hp'.get? s.heap.objs.size = some { cls := .type "tuple", data := .seq #[.int i tk, y] } := (sb.2 _ (Nat.ne_of_gt le)).trans hT
    have new : ObjOk X.prog X.w (upd H s.heap.objs.size (.tup [.int (i : Nat), x])) hp' s.heap.objs.size (.tup [.int (i : Nat), x]) := by
      refine ⟨?_, [.int i tk, y], .cons ⟨_, rfl⟩ (.cons ru .nil), ⟨_, hT2, rfl, _, rfl⟩⟩
      show 2 ≤ sizeLine
      decide
    have J := I.turnedNew (t' := tk + 1) (ch := [e, it]) (h' := hp') (fun b ob hb q => by
      have n := (show b ≠ e ∧ b ≠ it by simpa using hb)
      exact (sb.2 b n.1).trans (hk b ob n.1 n.2 q)) hf (Nat.le_refl _) new
    refine ⟨.ref s.heap.objs.size, _, J, rfl, ⟨_, x, rfl, I.hok.fresh (Nat.le_refl _), rfl, fun ys hy => by rw [I.tuple_inj hy hq]; exact hx⟩, ⟨⟨y, ?_⟩, hs.1.at fun o q => (sb.2 it n1.symm).trans q⟩, fun b hb => ?_⟩
    · rw [show ((i + 1 : Nat) : Int) = (i : Int) + 1 by omega]; exact he'
    · have lb : b < s.heap.objs.size := by rcases (show b = e ∨ b = it by simpa using hb) with rfl | rfl <;> assumption
      rw [upd_ne (Nat.ne_of_lt lb)]
      exact (hf b hb).1
  done := by
    intro X hP hw hK hc i pins s σ H E I hf st hg
    subst hP hw hK
    obtain ⟨⟨old, he⟩, hi⟩ := st
    obtain ⟨xs, hq, hx⟩ := hg
    obtain ⟨its, rv, p, hz⟩ := I.tuple hq
    obtain ⟨f0, f1, f2, f3, f4, f5⟩ := hf it (by simp)
    have hl : its.toArray.size = i := by
      have := rv.length
      simp
      omega
    refine wpAny_pyNext_enum_endD (Draws.tuple (A := X.A.in1) (show X.A.in1.handled = none from I.ok.hd hc) it a n3 its.toArray) he ⟨by rw [hl]; exact hi, p⟩ fun hp eb => ⟨rfl, I.turned (t' := s.toks) (fun b o hb q => eb b o hb q) f0 f1 f3 f4 f5⟩
  self := fun A i s Q E st h => let ⟨⟨_, he⟩, _⟩ := st; wpAny_pyIter_enum he h
def iEnT (K : PySem.W.Frag) (ta : TA) : TI := fun σ H R => ta σ H fun vs H1 => ∃ a xs, vs = [.ref a] ∧ SqT K H1 a xs ∧ R (ItE K a) H1
theorem pi_enT {X : Cx} {x : Expr} {ta : TA} {p pos tpos : Pos} {elts : List Expr} {kk : Nat} (hg : Gl X "enumerate") (hm : X.mg "enumerate" = none) (ha : PA X [x] ta) (hs : starEach [x] X.env = [(false, eval x X.env)] := by rfl) :
    PI X (.Tuple elts kk tpos) (.Call (.Name "enumerate" p) [x] [] pos) (iEnT X.K ta) := ⟨fun pins s σ H R I h => by
  refine Call_ (ld_blt I hg hm boot_enumerate (PyProof.Rows.callWith_type1 (thn (ha.run pos pins s σ H _ I h) fun us s1 ⟨vs, H1, I1, r1, a, xs, ex, hq, q⟩ => ?_) hs rfl))
  subst ex
  cases r1 with
  | cons r rr =>
    cases rr
    cases r
    obtain ⟨its, rv, p', hz⟩ := I1.tuple hq
    have la : a < s1.heap.objs.size := by obtain ⟨_, z, _⟩ := p'; exact Heap.lt_size z
    refine en_call (begins_tuple a its.toArray) p' fun hp he hi hsz hk => wpAny_pyIter_enum he ?_
    have I2 : Inv X pins σ H1 { s1 with heap := hp } := I1.kept (t' := s1.toks) hk
    refine ⟨s1.heap.objs.size + 1, [s1.heap.objs.size + 1, s1.heap.objs.size], _, _, H1, rfl, I2, turn_en (a := a) (Nat.succ_ne_self _) (Nat.ne_of_gt (Nat.lt_succ_of_lt la)) (Nat.ne_of_lt la), ⟨⟨.none, he⟩, ⟨_, hi, rfl, rfl⟩⟩, fun b hb => ?_, q⟩
    have hle : s1.heap.objs.size ≤ b := by rcases (show b = s1.heap.objs.size + 1 ∨ b = s1.heap.objs.size by simpa using hb) with rfl | rfl <;> omega
    exact I1.fpOk hle (I1.hok.fresh hle)⟩
end UY

set_option Elab.async false
set_option linter.all false
set_option maxRecDepth 100000
set_option maxHeartbeats 4000000
set_option autoImplicit false
namespace UY
open PySem PySem.Spec PyProof.Rows L2
def AddI (w : World) (D : Addr) (y : V) (H : Hp) (Nx : Hp → Prop) : Prop := ∃ (k : Int) (S : Int → Bool) (n : Nat), y = .int k ∧ H D = some (SetO w D S n) ∧ n + 1 < scanBound ∧ Nx (upd H D (SetO w D (fun j => S j || decide (j = k)) (if S k = true then n else n + 1)))
def tSci (w : World) (wi : TI) (g : TG) (tt : TT) (te : TE) (vs : List Nat) : TE := fun σ H Q => wi σ H fun J H1 => ∀ D, H1 D = none → ∃ W : Nat → Nat → Hp → Prop, (∃ m, W 0 m (upd H1 D (SetO w D (fun _ => false) 0))) ∧
  ∀ i m Hc, W i m Hc → (J.stop i Hc ∧ Q (.ref D) Hc) ∨ (J.go i Hc ∧ ∃ Nx : Hp → Prop, (∀ H', Nx H' → ∃ m', m' < m ∧ W (i + 1) m' H') ∧
    ∀ x H', J.yld i Hc x H' → g x (wipe σ vs) H' fun σ2 H2 => wipe σ2 vs = wipe σ vs ∧ tt σ2 H2 fun b H3 => if b = true then te σ2 H3 fun y H4 => AddI w D y H4 Nx else Nx H3)
section
variable {X : Cx}
theorem pe_sci {elt tg iter : Expr} {ifs : List Expr} {scope : Scope} {own : List (PySem.Str × Nat)} {pos : Pos} {wi : TI} {g : TG} {tt : TT} {te : TE} (hc : X.calm = true) (hN : X.N.Nodup) (hi : PI X tg iter wi)
    (ok : BlkOk X.N X.env.scope scope own) (hg : ∀ (z : Shared) (Hz : Hp) (C : Addr) (cl : List (PySem.Str × Addr)) (fp : List Addr), PG (X.blk z Hz scope (compEnvC scope cl C X.env) fp) tg g)
    (ht : ∀ (z : Shared) (Hz : Hp) (C : Addr) (cl : List (PySem.Str × Addr)) (fp : List Addr), PTs (X.blk z Hz scope (compEnvC scope cl C X.env) fp) ifs tt)
    (he : ∀ (z : Shared) (Hz : Hp) (C : Addr) (cl : List (PySem.Str × Addr)) (fp : List Addr), PE (X.blk z Hz scope (compEnvC scope cl C X.env) fp) elt te)
    (hs : ∀ x, foldedSetIterable iter X.env x = pure x := by intro _; rfl) : PE X (.SetComp elt [⟨tg, iter, ifs, 0⟩] scope pos) (tSci X.w wi g tt te (own.map (·.2))) := ⟨fun pins s σ H Q I h => by
  rw [PpSet.eval_SetComp]
  have fr : ∀ y ∈ scope.names, y.2 = .free → ∃ c, X.env.cells.lookup y.1 = some c := fun y m e => (ok.free y m e).elim (fun k => I.ok.has _ (.inl k)) fun k => I.ok.has _ (.inr k)
  refine wpAny_comprehension_free rfl hs (closure_ok fr) ok.kind (fun y m e => by rw [ok.uniq y m, e]) (thn (hi.run pins s σ H _ I h) fun xv s1 hx => thn hx fun itv s2 ⟨it, fp, tn, J, H2, ei, I2, T, t2, f2, q⟩ => ?_)
  subst ei
  refine PpSet.newSet_ok (newEnv_comp ?_)
  generalize eD : s2.heap.objs.size = D
  have nD : H2 D = none := I2.hok.fresh (Nat.le_of_eq eD)
  obtain ⟨W, ⟨m0, w0⟩, turn⟩ := q D nD
  -- the new set stands
  let nob : Obj := { cls := .type "set", dict := none, data := .set #[] 0 (.fresh 0 0 (!X.w.params.followText "set-order")) }
  generalize e3 : ({ s2 with heap := s2.heap.push nob } : Shared) = s3
  have p3 : s3.heap = s2.heap.push nob := by rw [← e3]
  have I3 : Inv X pins σ (upd H2 D (SetO X.w D (fun _ => false) 0)) s3 := by
    rw [← e3]
    exact I2.laid (t' := s2.toks) (fun b o z => Heap.get?_push_of_some _ z) (Nat.le_of_eq eD) (eD ▸ setO_new (setR_fresh X.w))
  have lt2 : ∀ b ∈ fp, b < s2.heap.objs.size := fun b m => by obtain ⟨o, z, _⟩ := T.obj _ _ t2 b m; exact Heap.lt_size z
  have f3 : ∀ b ∈ fp, FpOk X pins (upd H2 D (SetO X.w D (fun _ => false) 0)) b ∧ b < s3.heap.objs.size := fun b m =>
    ⟨⟨by rw [upd_ne (by rw [← eD]; exact Nat.ne_of_lt (lt2 b m))]; exact (f2 b m).1, (f2 b m).2⟩, by rw [p3, Heap.size_push]; exact Nat.lt_succ_of_lt (lt2 b m)⟩
  have t3 : tn 0 s3.heap := T.keep _ _ _ t2 fun b _ o z => by rw [p3]; exact Heap.get?_push_of_some _ z
  have I4 := block_start I3 ok hN f3
  show codeAny _ _ (.compStart (.SetComp elt [⟨tg, iter, ifs, 0⟩] scope pos) 0 (.ref it) (.ref D) (compEnvC scope (cellsFrom (s3.heap.objs.size + 1) scope.names (cloFrom X.env.cells scope.names [])) s3.heap.objs.size X.env)) (compPost (model X.prog X.w) X.A X.xe _ _ (.ref D) s3.heap.objs.size) { s3 with heap := pushCells (s3.heap.push { cls := .type "dict", data := .dict #[] }) scope.names }
  generalize eC : cellsFrom (s3.heap.objs.size + 1) scope.names (cloFrom X.env.cells scope.names []) = cl at I4 ⊢
  have G := hg s3 (upd H2 D (SetO X.w D (fun _ => false) 0)) s3.heap.objs.size cl fp
  have TT' := ht s3 (upd H2 D (SetO X.w D (fun _ => false) 0)) s3.heap.objs.size cl fp
  have EE := he s3 (upd H2 D (SetO X.w D (fun _ => false) 0)) s3.heap.objs.size cl fp
  generalize ece : compEnvC scope cl s3.heap.objs.size X.env = ce at I4 G TT' EE ⊢
  have cl0 : ce.locals = s3.heap.objs.size := by subst ece; rfl
  have n3 : ∀ b ∈ fp, (upd H2 D (SetO X.w D (fun _ => false) 0)) b = none := fun b m => (f3 b m).1.1
  generalize eH : upd H2 D (SetO X.w D (fun _ => false) 0) = H3 at I3 I4 G TT' EE w0 n3 f3
  generalize e4 : ({ s3 with heap := pushCells (s3.heap.push { cls := .type "dict", data := .dict #[] }) scope.names } : Shared) = s4 at I4 ⊢
  have t4 : tn 0 s4.heap := T.keep _ _ _ t3 fun b _ o z => by rw [← e4]; exact pushCells_keeps _ _ _ _ (Heap.get?_push_of_some _ z)
  have fpo : ∀ {σ' : L2.St} {H' : Hp} {s' : Shared}, Inv (X.blk s3 H3 scope ce fp) [] σ' H' s' → (∀ b ∈ fp, H' b = none) → ∀ b ∈ fp, FpOk (X.blk s3 H3 scope ce fp) [] H' b := fun {_ _ _} J' n b m =>
    ⟨n b m, (J'.ok.exf b m).1, J'.ok.exfs b m, .inl m, fun x c z => (J'.ok.exf b m).2 x c z, fun p hp => absurd (show p ∈ ([] : List (Addr × Obj)) ++ [] from hp) (by simp)⟩
  have body : codeAny (model X.prog X.w) X.A (.compLoop (.SetComp elt [⟨tg, iter, ifs, 0⟩] scope pos) 0 (.ref it) (.ref D) ce) (compPost (model X.prog X.w) X.A X.xe none (EP X pins σ Q) (.ref D) s3.heap.objs.size) s4 := by
    refine PpSet.compLoopS_any (fun n s' => ∃ i Hc, Inv (X.blk s3 H3 scope ce fp) [] (wipe σ (own.map (·.2))) Hc s' ∧ tn i s'.heap ∧ (∀ b ∈ fp, Hc b = none) ∧ W i n Hc) ?_ m0 ⟨0, H3, I4, t4, n3, w0⟩
    rintro n s5 ⟨i, H5, I5, t5, n5, w5⟩
    rcases turn i n H5 w5 with ⟨stop, qq⟩ | ⟨go, Nx, hNx, step⟩
    · -- all are gone through
      refine thnF (T.done (X.blk s3 H3 scope ce fp) rfl rfl rfl hc i [] s5 _ H5 (fun _ _ => False) I5 (fpo I5 n5) t5 stop) fun r s6 ⟨er, I6⟩ => ?_
      subst er
      have I7 : Inv X pins σ H5 s6 := I3.call' (ch := fp) I6.os I6.base I6.hok I6.bare fun b m => ⟨(f3 b m).1.2.2.2.1, (f3 b m).1.2.1, (f3 b m).1.2.2.2.2.1, (f3 b m).1.2.2.2.2.2⟩
      have nC : H5 s3.heap.objs.size = none := cl0 ▸ (show H5 ce.locals = none from I6.free)
      obtain ⟨mm, hn, _⟩ := I6.loc
      obtain ⟨g0, g1, g2, g3, g4, g5⟩ := I3.fpOk (Nat.le_refl _) nC
      exact ⟨mm, cl0 ▸ (show s6.heap.Ns ce.locals mm from hn), fun h7 sb => ⟨.ref D, H5, I7.turned (t' := s6.toks) (fun b o hb z => (sb.2 b hb).trans z) g0 g1 g3 g4 g5, rfl, qq⟩⟩
    · -- one more
      refine thnF (T.item (X.blk s3 H3 scope ce fp) rfl rfl rfl hc i [] s5 _ H5 (fun _ _ => False) I5 (fpo I5 n5) t5 go) fun r s6 ⟨u, er, h6⟩ => ?_
      subst er
      refine thnF h6 fun _ s7 ⟨x, H7, I7, r7, y7, t7, n7⟩ => ?_
      refine thnF (G.run _ s7 _ H7 x u _ (I7.pinned (fpo I7 n7) (T.obj _ _ t7)) r7 (step x H7 y7)) fun _ s8 ⟨σ8, H8, I8, w8, q8⟩ => thnF (TT'.run _ s8 σ8 H8 _ I8 q8) fun b s9 ⟨H9, I9, q9⟩ => ?_
      have fin : ∀ {s' : Shared} {H' : Hp}, Inv (X.blk s3 H3 scope ce fp) ([] ++ pinsAt fp s7.heap) σ8 H' s' → Nx H' → ∃ m, m < n ∧ ∃ i Hc, Inv (X.blk s3 H3 scope ce fp) [] (wipe σ (own.map (·.2))) Hc s' ∧ tn i s'.heap ∧ (∀ b ∈ fp, Hc b = none) ∧ W i m Hc := fun {s' H'} J' nx => by
        obtain ⟨m', lm, w'⟩ := hNx H' nx
        have pin : ∀ b ∈ fp, ∀ o, s7.heap.get? b = some o → s'.heap.get? b = some o ∧ H' b = none := fun b m o z =>
          have y := J'.pin (b, o) (List.mem_append_right _ (List.mem_append_right _ (mem_pinsAt m z)))
          ⟨y.1, y.2.1⟩
        have ll : (wipe σ (own.map (·.2))).length = σ8.length := by rw [← w8, wipe_length]
        exact ⟨m', lm, i + 1, H', (J'.unpinned (pins := [])).weak ll (fun j v z => (wipe_some (w8 ▸ z)).1), T.keep _ _ _ t7 fun b m o z => (pin b m o z).1, fun b m => by
          obtain ⟨o, z, _⟩ := T.obj _ _ t7 b m
          exact (pin b m o z).2, w'⟩
      cases b with
      | false =>
        simp only [Bool.false_eq_true, if_false] at q9 ⊢
        exact fin I9 q9
      | true =>
        simp only [if_true] at q9 ⊢
        refine thnF (EE.run _ s9 σ8 H9 _ I9 q9) fun z s10 ⟨yv, H10, I10, r10, k, S, n0, ey, hD, room, nx⟩ => ?_
        subst ey
        refine thnF (mt_sadd (X := X.blk s3 H3 scope ce fp) _ s10 σ8 H10 (.ref D) [.int k] (.ref D) [z] (fun _ H' => Nx H') I10 rfl (.cons r10 .nil) ⟨D, k, S, n0, rfl, rfl, hD, room, nx⟩) fun _ s11 ⟨_, H11, I11, _, nx'⟩ => fin I11 nx'
  exact PpSet.codeAny_compStart_set body (T.self X.A 0 _ _ _ t4 body)⟩
end
end UY

set_option Elab.async false
set_option linter.all false
set_option maxRecDepth 100000
set_option maxHeartbeats 4000000
set_option autoImplicit false
namespace UX
open PySem PySem.Spec PyProof.Rows L2 UY
open EL (Ex RB BOk Bn TK)
def ddI (ns : List Int) : List Int := ns.foldl (fun acc k => if k ∈ acc then acc else acc ++ [k]) []
theorem ddI_snoc (ns : List Int) (k : Int) : ddI (ns ++ [k]) = if k ∈ ddI ns then ddI ns else ddI ns ++ [k] := by unfold ddI; rw [List.foldl_append]; rfl
theorem snoc_ind {α : Type} {P : List α → Prop} (h0 : P []) (h1 : ∀ l x, P l → P (l ++ [x])) : ∀ l, P l := fun l => by
  have : ∀ n (l : List α), l.length = n → P l := by
    intro n
    induction n with
    | zero => intro l e; rw [List.length_eq_zero_iff.mp e]; exact h0
    | succ n ih =>
      intro l e
      have hne : l ≠ [] := fun z => by rw [z] at e; cases e
      rw [← List.dropLast_concat_getLast hne]
      exact h1 _ _ (ih _ (by rw [List.length_dropLast, e]; rfl))
  exact this l.length l rfl
theorem mem_ddI {x : Int} : ∀ ns : List Int, x ∈ ddI ns ↔ x ∈ ns := by
  refine snoc_ind (by simp [ddI]) fun l k ih => ?_
  rw [ddI_snoc]
  split
  · rename_i h
    rw [ih, List.mem_append, List.mem_singleton]
    exact ⟨.inl, fun z => z.elim id fun e => e ▸ ih.mp (e ▸ h)⟩
  · rw [List.mem_append, List.mem_append, ih]
theorem nodup_ddI : ∀ ns : List Int, (ddI ns).Nodup := by
  refine snoc_ind (by simp [ddI]) fun l k ih => ?_
  rw [ddI_snoc]
  split
  · exact ih
  · rename_i h
    exact List.nodup_append.mpr ⟨ih, List.pairwise_singleton _ _, fun a ha b hb e => h (by rw [List.mem_singleton] at hb; rw [← hb, ← e]; exact ha)⟩
theorem ddI_mono (a : List Int) : ∀ b : List Int, (ddI a).length ≤ (ddI (a ++ b)).length := by
  refine snoc_ind (by simp) fun l k ih => ?_
  rw [← List.append_assoc, ddI_snoc]
  split
  · exact ih
  · rw [List.length_append]; omega
def sortD (ns : List Int) : List Int := (ddI ns).mergeSort fun a b => decide (a ≤ b)
theorem mem_sortD {x : Int} {ns : List Int} : x ∈ sortD ns ↔ x ∈ ns := by unfold sortD; rw [List.mem_mergeSort, mem_ddI]
theorem sortD_pw (ns : List Int) : (sortD ns).Pairwise (· < ·) := by
  have h1 : (sortD ns).Pairwise fun a b => decide (a ≤ b) = true := List.pairwise_mergeSort (fun a b c h1 h2 => by simp only [decide_eq_true_eq] at *; omega) (fun a b => by simp only [Bool.or_eq_true, decide_eq_true_eq]; omega) _
  have h2 : (sortD ns).Nodup := ((ddI ns).mergeSort_perm _).symm.nodup (nodup_ddI ns)
  exact (h1.and h2).imp fun ⟨a, b⟩ => by simp only [decide_eq_true_eq] at a; omega
theorem rise_one : ∀ {a b : List Int}, a.Pairwise (· < ·) → b.Pairwise (· < ·) → (∀ x, x ∈ a ↔ x ∈ b) → a = b
  | [], [], _, _, _ => rfl
  | [], y :: b, _, _, h => absurd ((h y).mpr List.mem_cons_self) (fun z => nomatch z)
  | x :: a, [], _, _, h => absurd ((h x).mp List.mem_cons_self) (fun z => nomatch z)
  | x :: a, y :: b, pa, pb, h => by
    have pa' := List.pairwise_cons.mp pa
    have pb' := List.pairwise_cons.mp pb
    have e : x = y := by
      rcases List.mem_cons.mp ((h x).mp List.mem_cons_self) with e | m
      · exact e
      · rcases List.mem_cons.mp ((h y).mpr List.mem_cons_self) with e' | m'
        · exact e'.symm
        · have := pb'.1 x m; have := pa'.1 y m'; omega
    subst e
    rw [rise_one pa'.2 pb'.2 fun z => ?_]
    have := h z
    simp only [List.mem_cons] at this
    constructor
    · intro m
      rcases this.mp (.inr m) with e | e
      · have := pa'.1 z m; omega
      · exact e
    · intro m
      rcases this.mpr (.inr m) with e | e
      · have := pb'.1 z m; omega
      · exact e
theorem map_int_inj1 : ∀ {a b : List Int}, a.map U.int = b.map U.int → a = b
  | [], [], _ => rfl
  | [], _ :: _, h => by simp at h
  | _ :: _, [], h => by simp at h
  | x :: a, y :: b, h => by
    rw [List.map_cons, List.map_cons, List.cons.injEq, U.int.injEq] at h
    rw [h.1, map_int_inj1 h.2]
theorem imAll_ints {G : Cxt} {rs : List Addr} {B : Bn} {H : Hp} : ∀ ns : List Int, imAll G rs B (ns.map .int) (ns.map V.int) H
  | [] => rfl
  | n :: ns => ⟨.int n, ns.map V.int, rfl, rfl, imAll_ints ns⟩
def sortDU : U → Option U
  | .lst us => match intsL us with
    | some ns => if (ddI ns).length < 64 then some (.lst ((sortD ns).map .int)) else none
    | none => none
  | _ => none
theorem intsL_eq : ∀ {us : List U} {ns : List Int}, intsL us = some ns → us = ns.map .int
  | [], _, e => by cases e; rfl
  | u :: us, ns, e => by
    cases u <;> simp [intsL] at e
    obtain ⟨r, er, rfl⟩ := e
    rw [intsL_eq er]; rfl
theorem intsL_map : ∀ ns : List Int, intsL (ns.map .int) = some ns
  | [] => rfl
  | n :: ns => by rw [List.map_cons, intsL, intsL_map ns]; rfl
theorem tail_ints : ∀ {a ns : List Int} {b : List U}, a.map U.int ++ b = ns.map U.int → b = ((intsL b).getD []).map U.int
  | [], ns, b, h => by rw [show b = ns.map U.int from h, intsL_map]; rfl
  | x :: a, [], b, h => by simp at h
  | x :: a, n :: ns, b, h => tail_ints (a := a) (ns := ns) (by simp at h; simpa using h.2)
section
variable {F : Fr} {os : Os} {as as' : SA} {st st' : Sto} {γ : List (U × V)} {H H' : Hp} {σ : L2.St} {δ : Dl}
structure SS (w : World) (F : Fr) (os : Os) (k0 : Nat) (D : Addr) (as : SA) (st : Sto) (γ : List (U × V)) (H : Hp) (σ : L2.St) (δ : Dl) (ns : List Int) : Prop where
  S : SDo F ((k0, [D]) :: os) as st γ H σ δ
  a : H D = some (SetO w D (fun j => decide (j ∈ ns)) (ddI ns).length)
variable {k0 : Nat} {D : Addr} {ns : List Int} {w : World}
theorem SS.go (l : SS w F os k0 D as st γ H σ δ ns) {σ' : L2.St} {δ' : Dl} (g : Go as as' H H') (S : SDo F ((k0, [D]) :: os) as' st' γ H' σ' δ') : SS w F os k0 D as' st' γ H' σ' δ' ns :=
  ⟨S, g.rb.keep _ _ (fun m => (List.nodup_append.mp l.S.nd).2.2 D (List.mem_append_left _ List.mem_cons_self) D m rfl) l.a⟩
theorem SS.push (l : SS w F os k0 D as st γ H σ δ ns) (hk : δ.length ≤ k0) (k : Int) (hz : (ddI ns).length + 1 < scanBound) {Nx : Hp → Prop} (hN : ∀ H', SS w F os k0 D as st γ H' σ δ (ns ++ [k]) → (∀ b, b ≠ D → H' b = H b) → H' D ≠ none → Nx H') : AddI w D (.int k) H Nx := by
  refine ⟨k, _, _, rfl, l.a, hz, ?_⟩
  have e1 : (fun j => decide (j ∈ ns) || decide (j = k)) = fun j => decide (j ∈ ns ++ [k]) := by
    funext j
    rw [Bool.eq_iff_iff]
    simp
  have e2 : (if decide (k ∈ ns) = true then (ddI ns).length else (ddI ns).length + 1) = (ddI (ns ++ [k])).length := by
    rw [ddI_snoc]
    by_cases h : k ∈ ns
    · rw [decide_eq_true h, if_pos rfl, if_pos ((mem_ddI ns).mpr h)]
    · rw [decide_eq_false h, if_neg (by simp), if_neg (fun z => h ((mem_ddI ns).mp z)), List.length_append]; rfl
  rw [e1, e2]
  have c : Chg F ((k0, [D]) :: os) as H (upd H D (SetO w D (fun j => decide (j ∈ ns ++ [k])) (ddI (ns ++ [k])).length)) k0 [D] [D] D := chg_same List.mem_cons_self List.mem_cons_self l.S l.a (fun _ z => nomatch z) (fun _ _ z => nomatch z)
  have S := l.S.mut c (x := none) (fun _ z => nomatch z)
  rw [setOs_same l.S.ix List.mem_cons_self] at S
  rw [List.set_eq_of_length_le hk] at S
  exact hN _ ⟨S, upd_same⟩ (fun b n => upd_ne n) (by rw [upd_same]; exact fun z => nomatch z)
end
section
variable {F : Fr} {δ : Dl} {wi wi1 : TI} {g g1 : TG} {tt tt1 : TT} {te : TE} {vs vs1 : List Nat} {wl : M (List U)} {w : World}
theorem ev_sortSc {wt : U → M Bool} {we : U → M U} (no : noOwn δ vs = true) (hs : Src F wi δ wl)
    (hb : ∀ u st r, wt u st = some r → ∃ δ', TgOk F g vs (wipD δ vs) u δ' ∧ EvT F tt δ' (wt u) ∧ EvW F te δ' (we u)) : EvW F (tCB (rSortedSet w) (tCons (tSci w wi g tt te vs) tNil)) δ (op1 sortDU (lcW wl wt we)) := fun os as st γ σ H c st' S q QQ k => by
  obtain ⟨c1, stx, q0, q⟩ := M.bind_inv q
  obtain ⟨ec, rfl⟩ := M.o_inv q
  obtain ⟨us, st1, qs, q⟩ := M.bind_inv q0
  obtain ⟨r, st2, qr, q⟩ := M.bind_inv q
  obtain ⟨e, rfl⟩ := M.o_inv q
  unfold szU at e
  by_cases hsz : r.length ≤ sizeLine
  case neg => rw [if_neg hsz] at e; cases e
  rw [if_pos hsz] at e
  cases e
  simp only [sortDU] at ec
  cases en : intsL r with
  | none => rw [en] at ec; cases ec
  | some ns =>
  rw [en] at ec
  simp only at ec
  by_cases h64 : (ddI ns).length < 64
  case neg => rw [if_neg h64] at ec; cases ec
  rw [if_pos h64] at ec
  cases ec
  have er := intsL_eq en
  refine hs os as st (ghv σ δ vs ++ γ) σ H us st1 (S.ghost (ghv_ok S vs)) qs _ fun J H1 as1 gh g1 S1 W D hD => ?_
  obtain ⟨k0, hk0, hkl⟩ := nodup_fresh (os.map (·.1)) δ.length
  have S2 := S1.grow hk0 hD (Ex.new (o := SetO w D (fun _ => false) 0) hD) (by rw [upd_same]; exact fun z => nomatch z)
  have hD0 : H D = none := g1.fresh hD
  have hkw : (wipD δ vs).length ≤ k0 := by rw [wipD_len]; exact hkl
  refine ⟨fun i m Hc => m = us.length - i ∧ i ≤ us.length ∧ ∃ as2 st2 ms rest, Go as as2 H Hc ∧ SS w F os k0 D as2 st2 (gh ++ (ghv σ δ vs ++ γ)) Hc (L2.wipe σ vs) (wipD δ vs) ms ∧ compM wt we (us.drop i) st2 = some (.ok rest, st') ∧ ms.map U.int ++ rest = r,
    ⟨us.length, by simp, Nat.zero_le _, as1, st1, [], r, go_new (H1 := H) g1 hD0, ⟨S2.wipe vs, by rw [upd_same]; rfl⟩, by rw [List.drop_zero]; exact qr, rfl⟩, ?_⟩
  rintro i m Hc ⟨rfl, hi, as2, st2, ms, rest, g2, l2, q2, eq⟩
  by_cases hlt : i < us.length
  · right
    refine ⟨W.goes i _ as2 st2 _ _ _ Hc hlt l2.S, fun H' => ∃ m', m' < us.length - i ∧ m' = us.length - (i + 1) ∧ i + 1 ≤ us.length ∧ ∃ as2 st2 ms rest, Go as as2 H H' ∧ SS w F os k0 D as2 st2 (gh ++ (ghv σ δ vs ++ γ)) H' (L2.wipe σ vs) (wipD δ vs) ms ∧ compM wt we (us.drop (i + 1)) st2 = some (.ok rest, st') ∧ ms.map U.int ++ rest = r, fun H' ⟨m', h1, h2, h3⟩ => ⟨m', h1, h2, h3⟩, fun x H' y => ?_⟩
    have ed : us.drop i = us[i] :: us.drop (i + 1) := List.drop_eq_getElem_cons hlt
    rw [ed, compM] at q2
    obtain ⟨b, st3, q3, q2⟩ := M.bind_inv q2
    obtain ⟨δ', tg, ht, he⟩ := hb us[i] st2 _ q3
    obtain ⟨ex, px⟩ := W.yields i _ as2 st2 _ _ _ x Hc H' us[i] (List.getElem?_eq_getElem hlt) l2.S y
    have gx : Go as2 as2 Hc H' := Go.of_ex ex
    have l3 := l2.go gx (l2.S.ex ex)
    refine tg.2 _ as2 st2 _ H' _ x l3.S px _ fun σ2 wq S3 => ⟨by rw [wq, wipe_idem], ?_⟩
    have back : ∀ {as4 : SA} {st4 : Sto} {H4 : Hp}, SDo F ((k0, [D]) :: os) as4 st4 (gh ++ (ghv σ δ vs ++ γ)) H4 σ2 δ' → SDo F ((k0, [D]) :: os) as4 st4 (gh ++ (ghv σ δ vs ++ γ)) H4 (L2.wipe σ vs) (wipD δ vs) := fun S4 => by
      have := S4.wipe vs
      rw [wq, wipe_idem, tg.1, wipD_idem] at this
      exact this
    refine ht _ as2 st2 _ σ2 H' b st3 S3 q3 _ fun H3 as3 g3 S4 => ?_
    cases b with
    | false => exact ⟨us.length - (i + 1), by omega, rfl, hlt, as3, st3, ms, rest, (g2.trans gx).trans g3, l3.go g3 (back S4), q2, eq⟩
    | true =>
      simp only [if_true] at q2 ⊢
      obtain ⟨u, st5, q5, q2⟩ := M.bind_inv q2
      obtain ⟨r', st6, q6, q2⟩ := M.bind_inv q2
      cases q2
      have hu : ∃ kk : Int, u = .int kk := by
        have : u ∈ ns.map U.int := by rw [← er, ← eq]; simp
        obtain ⟨kk, _, rfl⟩ := List.mem_map.mp this
        exact ⟨kk, rfl⟩
      obtain ⟨kk, rfl⟩ := hu
      refine he _ as3 st3 _ σ2 H3 _ st5 S4 q5 _ fun y H5 as5 g5 S5 py => ?_
      have ey : y = .int kk := py
      subst ey
      refine ((l3.go g3 (back S4)).go g5 (back S5)).push hkw kk ?_ fun H6 l6 hk6 hD6 => ?_
      · have h1 : ns = ms ++ (intsL (U.int kk :: r')).getD [] := by
          have : ms.map U.int ++ U.int kk :: r' = ns.map U.int := by rw [eq, er]
          rw [show U.int kk :: r' = ((intsL (U.int kk :: r')).getD []).map U.int from tail_ints this] at this
          rw [← List.map_append] at this
          exact (map_int_inj1 this).symm
        have h2 := ddI_mono ms ((intsL (U.int kk :: r')).getD [])
        rw [← h1] at h2
        have : 100 < scanBound := by decide
        omega
      · have g6 : Go as as5 H H6 := by
          have e6 : H6 = upd H5 D (H6 D |>.get (Option.isSome_iff_ne_none.mpr hD6)) := by
            funext b
            by_cases z : b = D
            · subst z; rw [upd_same]; simp
            · rw [upd_ne z, hk6 b z]
          rw [e6]
          exact go_new (H1 := H) (((g2.trans gx).trans g3).trans g5) hD0
        exact ⟨us.length - (i + 1), by omega, rfl, hlt, as5, st5, ms ++ [kk], r', g6, l6, q6, by rw [List.map_append, List.append_assoc]; exact eq⟩
  · left
    have e : i = us.length := by omega
    subst e
    rw [List.drop_length] at q2
    cases q2
    rw [List.append_nil] at eq
    have en2 : ms = ns := map_int_inj1 (eq.trans er)
    subst en2
    refine ⟨W.stops _ as2 _ _ _ _ Hc l2.S, D, _, _, rfl, l2.a, h64, fun ns' p pw hm hl hp => ?_⟩
    have e1 : ns' = sortD ms := rise_one pw (sortD_pw ms) fun x => by rw [hm x, mem_sortD, decide_eq_true_eq]
    subst e1
    have S9 : SDo F ((k0, [D]) :: os) as2 _ γ Hc σ δ := SDo.restore (g := []) (vs := vs) S no l2.S.unghost
    have S8 := S9.ungrow hkl
    have nb : ¬ ban F os as2 p := S8.notban hp
    exact k (.ref p) _ as2 (g2.trans (Go.of_ex (Ex.new hp))) (S8.ex (Ex.new hp)) ⟨p, _, rfl, nb, upd_same, imAll_ints _⟩
end
end UX

set_option Elab.async false
set_option linter.all false
set_option maxRecDepth 100000
set_option maxHeartbeats 4000000
set_option autoImplicit false
namespace UY
open PySem PySem.Spec PyProof.Rows L2 UX
section
variable {P : Program} {w : World} {A : Around} {E : Value → Shared → Prop} {s : Shared}
theorem ints_at : ∀ {vs : List Value} {ns : List Int} {i : Nat} {v : Value}, IntsAre vs ns → vs[i]? = some v → ∃ k t, ns[i]? = some k ∧ v = .int k t
  | _, _, _, _, .nil, e => by simp at e
  | _, _, 0, _, .cons n t r, e => ⟨n, t, rfl, by simpa using e.symm⟩
  | _, _, i + 1, v, .cons n t r, e => by simpa using ints_at (i := i) r (by simpa using e)
theorem call_set_ofInts {l : Addr} {items : Array Value} (ns : List Int) {Q : Value → Shared → Prop} (hh : A.handled = none) (hl : s.heap.IsList l items) (hit : IntsAre items.toList ns) (hfew : ns.length + 1 < scanBound)
    (h : ∀ (h' : Heap) (tk c : Nat), SetR w h' s.heap.objs.size (fun j => decide (j ∈ ns)) c → (∀ b o, s.heap.get? b = some o → h'.get? b = some o) → Q (.ref s.heap.objs.size) { s with heap := h', toks := tk }) : wpAny (model P w) A (call (.type "set") [.ref l]) Q E s := by
  have hn : items.size = ns.length := by have q := IntsAre.length hit; rwa [Array.length_toList] at q
  obtain ⟨c, tl, hmro⟩ := F.called_set.mro
  have hm := F.called_set.made
  have hb := F.called_set.sub
  refine wpAny_call (codeAny_of_tree ?_); show wpAny _ _ (callAny (.type "set") _) _ _ _
  refine wpAny_pure ⟨Code.quiet_builtin _ (by decide +kernel), codeAny_builtin F.entry_type_call ?_⟩; rw [Around.under_plain (weight_type_call_type "set" [.ref l] []) rfl]
  have h1 := F.called_set.notType; have h2 := F.called_set.canCreate; have h3 := F.typeCall_set_1 (.ref l)
  repeat (any_goals (first | assumption | wp_step))
  refine codeAny_mono (code_set_led1 (.ref l) (E := E) (Q₁ := fun ob s₁ => ob = .ref s.heap.objs.size ∧ s₁ = { s with heap := s.heap.push (set0 w) }) ⟨rfl, rfl⟩) fun r s₁ hr => ?_
  cases r with
  | error e => exact hr
  | ok fl =>
    cases fl with
    | ret ob =>
      obtain ⟨rfl, rfl⟩ := hr
      have hS : (s.heap.push (set0 w)).get? s.heap.objs.size = some (set0 w) := Heap.get?_push_size _ rfl
      have hT : Shared.TypeIs { s with heap := s.heap.push (set0 w) } (.ref s.heap.objs.size) "set" := ⟨_, hS, rfl⟩
      have h4 := F.called_set.init.lookup; have h5 := F.called_set.init.bind (.ref s.heap.objs.size)
      repeat (any_goals (first | assumption | wp_step))
      refine codeAny_mono (codeAny_call_builtin (R := wants (fun r s₂ => r = .none ∧ ∃ h' tk c, s₂ = { s with heap := h', toks := tk } ∧ SetR w h' s.heap.objs.size (fun j => decide (j ∈ ns)) c ∧ (∀ b o, s.heap.get? b = some o → h'.get? b = some o)) E) F.called_set.init.plain F.entry_set_init (check_set_init_1 hT ?_)) fun r₂ s₂ hr₂ => ?_
      · obtain ⟨ol, hol, hcl, nl, hdl⟩ := hl
        obtain ⟨ocls, odict, odata, oslots⟩ := ol
        simp only at hcl hdl
        subst hcl; subst hdl
        have hol' : (s.heap.push (set0 w)).get? l = some { cls := .type "list", dict := odict, data := .seq items nl, slots := oslots } := Heap.get?_push_of_some _ hol
        have k1 := F.sub_list_set; have k2 := F.sub_list_frozenset
        have k3 : (Value.type "list" == Value.type "dict") = false := by decide
        have hl1 : (s.heap.push (set0 w)).IsList l items := ⟨_, hol', rfl, nl, rfl⟩
        unfold Builtin.«set.__init__» noKeywords Builtin.Frozenset.updateFrom
        generalize hPI : pyIter = PI
        wp_walk
        subst hPI
        refine wpAny_pyIter_list hl1 (wpAny_bind (wpAny_runValue ?_))
        have hlS : l < s.heap.objs.size := Heap.lt_size hol
        have hh3 : A.in1.in1.in1.handled = none := by simp [hh]
        have hneI : l ≠ (s.heap.push (set0 w)).objs.size := by
          rw [Heap.size_push]; exact fun z => Nat.lt_irrefl _ (Nat.lt_of_lt_of_le (z ▸ hlS) (Nat.le_succ _))
        have hSf : s.heap.objs.size ∉ [(s.heap.push (set0 w)).objs.size, l] := by
          rw [Heap.size_push]; exact fun m => (List.mem_cons.mp m).elim (fun z => Nat.lt_irrefl _ (Nat.lt_of_lt_of_eq (Nat.lt_succ_self _) z.symm)) fun m => Nat.lt_irrefl _ (Nat.lt_of_le_of_lt (Nat.le_of_eq (List.mem_singleton.mp m)) hlS)
        have hval : ∀ (i : Nat) (v : Value), items[i]? = some v → ∃ k t, ns[i]? = some k ∧ v = .int k t := fun i v hv => by
          have q : items.toList[i]? = some v := by rw [Array.getElem?_toList]; exact hv
          exact ints_at hit q
        refine set_update_ints ((Walks.list hh3 _ l hneI items).toS) s.heap.objs.size hSf ns hn hfew hval (items.size - 0) 0 _ (by omega) (Nat.zero_le _) ⟨⟨_, Heap.get?_push_size _ rfl, rfl, rfl⟩, ⟨_, Heap.get?_push_of_some _ hol', rfl, nl, rfl⟩⟩ ?e1 ?e2
        case e1 => exact ⟨0, Nat.zero_le _, (setR_fresh w).at fun o e => Heap.get?_push_of_some _ e⟩
        case e2 =>
          intro s' c hm hc hS'
          obtain ⟨h', g2, d', tk', os'⟩ := s'
          obtain ⟨rfl, rfl, rfl⟩ : g2 = s.gens ∧ d' = s.drawn ∧ os' = s.os := ⟨hm.gens, hm.drawn, hm.os⟩
          show wpAny _ _ _ _ _ _
          refine wpAny_pure ?_
          show wpAny _ _ (ret Value.none) _ _ _
          refine wpAny_pure ⟨rfl, h', tk', c, rfl, hS', fun b o e => ?_⟩
          have hbl := Heap.lt_size e
          refine hm.heap b o (fun m => ?_) (Heap.get?_push_of_some _ (Heap.get?_push_of_some _ e))
          rcases List.mem_cons.mp m with z | z
          · exact Nat.lt_irrefl _ (z ▸ hbl)
          · rw [List.mem_singleton.mp z, Heap.size_push] at hbl
            exact absurd hbl (Nat.not_lt.mpr (Nat.le_succ _))
      · cases r₂ with
        | error e => exact hr₂
        | ok fl₂ =>
          cases fl₂ with
          | ret r =>
            obtain ⟨rfl, h', tk, c', rfl, hS', hk'⟩ := hr₂
            repeat (any_goals (first | assumption | wp_step))
            exact h _ _ _ hS' hk'
          | _ => exact hr₂.elim
    | _ => exact hr.elim
end
end UY

set_option Elab.async false
set_option linter.all false
set_option maxRecDepth 100000
set_option maxHeartbeats 4000000
set_option autoImplicit false
namespace UY
open PySem PySem.Spec PyProof.Rows L2 UX
theorem setR_n {w : World} {h : Heap} {a : Addr} {ns : List Int} {c : Nat} (R : SetR w h a (fun j => decide (j ∈ ns)) c) : c = (ddI ns).length := by
  obtain ⟨o, es, ep, t, _, _, _, _, nd, hm, _, _, hn, _⟩ := R
  have p : (es.toList.map keyOf).Perm (ddI ns) := nodup_perm nd (nodup_ddI ns) fun x => by rw [← hm x, decide_eq_true_eq, mem_ddI]
  have := p.length_eq
  rw [List.length_map, Array.length_toList] at this
  omega
theorem ints_of : ∀ {ns : List Int} {its : List Value}, Vals (ns.map V.int) its → IntsAre its ns
  | [], _, h => by cases h; exact .nil
  | n :: ns, _, h => by
    cases h with
    | cons r rr => obtain ⟨t, rfl⟩ := r; exact .cons n t (ints_of rr)
def rSetI (K : PySem.W.Frag) (w : World) : List V → Hp → VK → Prop := fun xs H Q => ∃ (l : Addr) (ns : List Int), xs = [V.ref l] ∧ (SqL K H l (ns.map V.int) ∨ SqT K H l (ns.map V.int)) ∧ ns.length + 1 < scanBound ∧
  ∀ p, H p = none → Q (.ref p) (upd H p (SetO w p (fun j => decide (j ∈ ns)) (ddI ns).length))
theorem cr_setI {X : Cx} (hc : X.calm = true) : CallR X (.type "set") (rSetI X.K X.w) := by
  intro pins s σ H xs us Q I r ⟨l, ns, ex, hq, hb, q⟩
  subst ex
  rw [Vals.ref1 r]
  have fin : ∀ (h' : Heap) (tk c : Nat), SetR X.w h' s.heap.objs.size (fun j => decide (j ∈ ns)) c → (∀ b o, s.heap.get? b = some o → h'.get? b = some o) → EP X pins σ Q (.ref s.heap.objs.size) { s with heap := h', toks := tk } := fun h' tk c R k => by
    have e := setR_n R
    subst e
    exact ⟨.ref _, _, I.laid (t' := tk) k (Nat.le_refl _) (setO_new R), rfl, q _ (I.hok.fresh (Nat.le_refl _))⟩
  rcases hq with hq | hq
  · obtain ⟨its, rv, p, hz⟩ := I.list hq
    exact call_set_ofInts ns (I.ok.hd hc) p.isList (by simpa using ints_of rv) hb fin
  · obtain ⟨its, rv, p, hz⟩ := I.tuple hq
    exact call_set_tupI ns (I.ok.hd hc) p (by simpa using ints_of rv) hb fun h' tk c R _ k => fin h' tk c R k
theorem cr_setIK {X : Cx} (K : PySem.W.Frag) (w : World) (hc : X.calm = true) (hK : X.K = K := by rfl) (hw : X.w = w := by rfl) : CallR X (.type "set") (rSetI K w) := hK ▸ hw ▸ cr_setI hc
theorem cr_sortSK {X : Cx} (w : World) (hc : X.calm = true) (hw : X.w = w := by rfl) : CallR X (.builtin "sorted") (rSortedSet w) := hw ▸ cr_sortedSet hc
end UY

set_option Elab.async false
set_option linter.all false
set_option maxRecDepth 100000
set_option maxHeartbeats 4000000
set_option autoImplicit false
namespace UX
open PySem PySem.Spec PyProof.Rows L2 UY
open EL (Ex RB BOk Bn TK)
def sortSIU : U → Option U
  | .lst us => match intsL us with
    | some ns => if (ddI ns).length < 64 ∧ ns.length < 4000 then some (.lst ((sortD ns).map .int)) else none
    | none => none
  | .tup us => match intsL us with
    | some ns => if (ddI ns).length < 64 ∧ ns.length < 4000 then some (.lst ((sortD ns).map .int)) else none
    | none => none
  | _ => none
theorem imAll_intsV {G : Cxt} {rs : List Addr} {B : Bn} {H : Hp} : ∀ {ns : List Int} {vs : List V}, imAll G rs B (ns.map .int) vs H → vs = ns.map V.int
  | [], _, h => h
  | n :: ns, _, ⟨v, r, e, h1, h2⟩ => by rw [e, show v = V.int n from h1, imAll_intsV h2]; rfl
section
variable {F : Fr} {δ : Dl} {w : World}
theorem sortSI_seq {u : U} {c : U} (e : sortSIU u = some c) : ∃ ns : List Int, (u = .lst (ns.map .int) ∨ u = .tup (ns.map .int)) ∧ (ddI ns).length < 64 ∧ ns.length < 4000 ∧ c = .lst ((sortD ns).map .int) := by
  cases u <;> simp [sortSIU] at e
  all_goals
    rename_i us
    cases en : intsL us with
    | none => rw [en] at e; cases e
    | some ns =>
      rw [en] at e
      simp only at e
      split at e
      · rename_i h
        cases e
        rw [intsL_eq en]
        exact ⟨ns, by simp, h.1, h.2, rfl⟩
      · cases e
theorem ev_sortSI {te : TE} {wa : M U} (h : EvR F te δ wa) : EvW F (tCB (rSortedSet w) (tCons (tCB (rSetI F.G.K w) (tCons te tNil)) tNil)) δ (op1 sortSIU wa) := fun os as st γ σ H c st' S q QQ k => by
  obtain ⟨a, st1, qa, q⟩ := M.bind_inv q
  obtain ⟨e, rfl⟩ := M.o_inv q
  obtain ⟨ns, hu, h1, h2, rfl⟩ := sortSI_seq e
  refine h os as st γ σ H a _ S qa _ fun v H1 as1 g1 S1 p => ?_
  have hl : ∃ l, v = .ref l ∧ (SqL F.G.K H1 l (ns.map V.int) ∨ SqT F.G.K H1 l (ns.map V.int)) := by
    rcases hu with rfl | rfl
    · obtain ⟨l, vs, rfl, _, hl, hv⟩ := p
      rw [imAll_intsV hv] at hl
      exact ⟨l, rfl, .inl (EL.sqL_of hl)⟩
    · obtain ⟨l, vs, rfl, hl, hv⟩ := p
      rw [imAll_intsV hv] at hl
      exact ⟨l, rfl, .inr (EL.sqT_of hl)⟩
  obtain ⟨l, rfl, hl⟩ := hl
  refine ⟨l, ns, rfl, hl, by have : 4001 < scanBound := by decide
                             omega, fun D hD => ⟨D, _, _, rfl, upd_same, h1, fun ns' p pw hm hl hp => ?_⟩⟩
  have e1 : ns' = sortD ns := rise_one pw (sortD_pw ns) fun x => by rw [hm x, mem_sortD, decide_eq_true_eq]
  subst e1
  have S2 := S1.ex (Ex.new (o := SetO w D (fun j => decide (j ∈ ns)) (ddI ns).length) hD)
  exact k (.ref p) _ as1 ((g1.trans (Go.of_ex (Ex.new hD))).trans (Go.of_ex (Ex.new hp))) (S2.ex (Ex.new hp)) ⟨p, _, rfl, S2.notban hp, upd_same, imAll_ints _⟩
def tupRW (w : M (List U)) : M U := .bind w fun us => .o (if us.length ≤ sizeLine then some (.tup us) else none)
def lstRW (w : M (List U)) : M U := .bind w fun us => .o (if us.length ≤ sizeLine then some (.lst us) else none)
theorem rng1_inv {u : U} {us : List U} (e : rng1U u = some us) : ∃ n : Int, u = .int n ∧ -(2 ^ 62) ≤ n ∧ n < 2 ^ 62 ∧ us = (List.range n.toNat).map fun i => U.int (i : Nat) := by
  cases u <;> simp [rng1U] at e
  rename_i n
  exact ⟨n, rfl, e.1.1, e.1.2, e.2.symm⟩
theorem imAll_rgV {G : Cxt} {rs : List Addr} {B : Bn} {H : Hp} (a : Int) (l : List Nat) : imAll G rs B (l.map fun i => U.int (a + (i : Nat))) (l.map fun i => V.int (a + (i : Nat))) H := by
  induction l with
  | nil => rfl
  | cons x l ih => exact ⟨_, _, rfl, rfl, ih⟩
def EvG (F : Fr) (te : L2.St → Hp → (Int → Int → Hp → Prop) → Prop) (δ : Dl) (w : M (List U)) : Prop := ∀ os as st γ σ H us st', SDo F os as st γ H σ δ → w st = some (.ok us, st') → ∀ Q : Int → Int → Hp → Prop,
  (∀ a b H' as', Go as as' H H' → SDo F os as' st' γ H' σ δ → -(2 ^ 62) ≤ a → a < 2 ^ 62 → -(2 ^ 62) ≤ b → b < 2 ^ 62 → us = (List.range (b - a).toNat).map (fun i => U.int (a + (i : Nat))) → Q a b H') → te σ H Q
theorem eg_1 {ta : TE} {wa : M U} (h : EvR F ta δ wa) : EvG F (tRg1 ta) δ (rng1W wa) := fun os as st γ σ H us st' S q Q k => by
  obtain ⟨u, st1, qu, q⟩ := M.bind_inv q
  obtain ⟨e, rfl⟩ := M.o_inv q
  obtain ⟨n, rfl, h1, h2, rfl⟩ := rng1_inv e
  refine h os as st γ σ H _ _ S qu _ fun v H1 as1 g1 S1 p => ⟨n, p, k 0 n H1 as1 g1 S1 (by decide) (by decide) h1 h2 ?_⟩
  rw [Int.sub_zero]
  exact List.map_congr_left fun i _ => by rw [Int.zero_add]
theorem ev_tupRg {tr : L2.St → Hp → (Int → Int → Hp → Prop) → Prop} {wr : M (List U)} (h : EvG F tr δ wr) : EvW F (tTupRg tr) δ (tupRW wr) := fun os as st γ σ H c st' S q QQ k => by
  obtain ⟨us, st1, qu, q⟩ := M.bind_inv q
  obtain ⟨e, rfl⟩ := M.o_inv q
  by_cases hl : us.length ≤ sizeLine
  case neg => rw [if_neg hl] at e; cases e
  rw [if_pos hl] at e
  cases e
  refine h os as st γ σ H us _ S qu _ fun a b H1 as1 g1 S1 h1 h2 h3 h4 eu => ⟨⟨h1, h2, h3, h4, ?_⟩, fun p hp => ?_⟩
  · rw [eu, List.length_map, List.length_range] at hl
    exact hl
  · exact k _ _ as1 (g1.trans (Go.of_ex (Ex.new hp))) (S1.ex (Ex.new hp)) ⟨p, _, rfl, upd_same, by rw [eu]; exact imAll_rgV a _⟩
theorem ev_lstRg {tr : L2.St → Hp → (Int → Int → Hp → Prop) → Prop} {wr : M (List U)} (h : EvG F tr δ wr) : EvW F (tLstRg tr) δ (lstRW wr) := fun os as st γ σ H c st' S q QQ k => by
  obtain ⟨us, st1, qu, q⟩ := M.bind_inv q
  obtain ⟨e, rfl⟩ := M.o_inv q
  by_cases hl : us.length ≤ sizeLine
  case neg => rw [if_neg hl] at e; cases e
  rw [if_pos hl] at e
  cases e
  refine h os as st γ σ H us _ S qu _ fun a b H1 as1 g1 S1 h1 h2 h3 h4 eu => ⟨⟨h1, h2, h3, h4, ?_⟩, fun p hp => ?_⟩
  · rw [eu, List.length_map, List.length_range] at hl
    exact hl
  · exact k _ _ as1 (g1.trans (Go.of_ex (Ex.new hp))) (S1.ex (Ex.new hp)) ⟨p, _, rfl, S1.notban hp, upd_same, by rw [eu]; exact imAll_rgV a _⟩
def enumL (us : List U) : List U := (List.range us.length).zipWith (fun i u => U.tup [.int (i : Nat), u]) us
def enumU : U → Option (List U)
  | .tup us => some (enumL us)
  | .lst us => some (enumL us)
  | _ => none
def enumW (w : M U) : M (List U) := .bind w fun u => .o (enumU u)
def iEnA (K : PySem.W.Frag) (ta : TA) : TI := fun σ H R => iEnum K ta σ H R ∨ iEnT K ta σ H R
end
theorem pi_or {X : Cx} {tg e : Expr} {w w' : TI} (h : PI X tg e w) (h' : PI X tg e w') : PI X tg e (fun σ H R => w σ H R ∨ w' σ H R) := ⟨fun pins s σ H R I z => z.elim (fun z => h.run pins s σ H R I z) fun z => h'.run pins s σ H R I z⟩
theorem pi_enAK {X : Cx} (K : PySem.W.Frag) {e : Expr} {ta : TA} {p pos tpos : Pos} {elts : List Expr} {kk : Nat} (hg : Gl X "enumerate") (hm : X.mg "enumerate" = none) (ha : PA X [e] ta) (hs : starEach [e] X.env = [(false, eval e X.env)] := by rfl) (hK : X.K = K := by rfl) :
    PI X (.Tuple elts kk tpos) (.Call (.Name "enumerate" p) [e] [] pos) (iEnA K ta) := hK ▸ pi_or (pi_enum hg hm ha hs) (pi_enT hg hm ha hs)
theorem enumL_len (us : List U) : (enumL us).length = us.length := by unfold enumL; rw [List.length_zipWith, List.length_range, Nat.min_self]
theorem enumL_get {us : List U} {i : Nat} {u : U} (h : (enumL us)[i]? = some u) : ∃ x, us[i]? = some x ∧ u = .tup [.int (i : Nat), x] := by
  have hi : i < us.length := by have := getElem?_lt h; rwa [enumL_len] at this
  unfold enumL at h
  rw [List.getElem?_zipWith, List.getElem?_range hi, List.getElem?_eq_getElem hi] at h
  cases h
  exact ⟨_, List.getElem?_eq_getElem hi, rfl⟩
section
variable {F : Fr} {δ : Dl} {ta : TE} {wa : M U}
theorem src_enum (ha : EvW F ta δ wa) : Src F (iEnA F.G.K (tCons ta tNil)) δ (enumW wa) := fun os as st γ σ H us st' S q Q k => by
  obtain ⟨u, st1, qu, q⟩ := M.bind_inv q
  obtain ⟨e, rfl⟩ := M.o_inv q
  cases u <;> simp [enumU] at e
  · subst e
    refine .inr (ha os as st γ σ H _ _ S qu _ fun v H1 as1 g1 S1 p1 => ?_)
    have S1' := S1.ghost (g := [(_, v)]) fun z m => by rw [List.mem_singleton] at m; rw [m]; exact p1
    obtain ⟨a, vs, rfl, hs, hv⟩ := id p1
    refine ⟨a, vs, rfl, EL.sqT_of hs, k _ H1 as1 _ g1 S1' ⟨fun i os as st γ σ δ H hi S2 => ?_, fun os as st γ σ δ H S2 => ?_, fun i os as st γ σ δ x H H' z e S2 y => ?_⟩⟩ <;> obtain ⟨a2, vs2, ev2, ht, hv2⟩ := S2.gh _ List.mem_cons_self <;> cases ev2
    · rw [enumL_len] at hi
      have h1 : i < vs2.length := by rw [imAll_len hv2]; omega
      exact ⟨vs2, vs2[i], EL.sqT_of ht, List.getElem?_eq_getElem h1⟩
    · exact ⟨vs2, EL.sqT_of ht, by rw [enumL_len, imAll_len hv2]⟩
    · obtain ⟨T, x1, rfl, hT, rfl, f1⟩ := y
      obtain ⟨c, e1, rfl⟩ := enumL_get e
      obtain ⟨y1, e3, p3⟩ := imAll_get hv2 e1
      rw [f1 _ (EL.sqT_of ht)] at e3
      cases e3
      exact ⟨Ex.new hT, zip_pair hT rfl p3⟩
  · subst e
    refine .inl (ha os as st γ σ H _ _ S qu _ fun v H1 as1 g1 S1 p1 => ?_)
    have S1' := S1.ghost (g := [(_, v)]) fun z m => by rw [List.mem_singleton] at m; rw [m]; exact p1
    obtain ⟨a, vs, rfl, nb, hs, hv⟩ := id p1
    refine ⟨a, vs, rfl, EL.sqL_of hs, k _ H1 as1 _ g1 S1' ⟨fun i os as st γ σ δ H hi S2 => ?_, fun os as st γ σ δ H S2 => ?_, fun i os as st γ σ δ x H H' z e S2 y => ?_⟩⟩ <;> obtain ⟨a2, vs2, ev2, n2, ht, hv2⟩ := S2.gh _ List.mem_cons_self <;> cases ev2
    · rw [enumL_len] at hi
      have h1 : i < vs2.length := by rw [imAll_len hv2]; omega
      exact ⟨vs2, vs2[i], EL.sqL_of ht, List.getElem?_eq_getElem h1⟩
    · exact ⟨vs2, EL.sqL_of ht, by rw [enumL_len, imAll_len hv2]; exact Nat.le_refl _⟩
    · obtain ⟨T, x1, rfl, hT, rfl, f1⟩ := y
      obtain ⟨c, e1, rfl⟩ := enumL_get e
      obtain ⟨y1, e3, p3⟩ := imAll_get hv2 e1
      rw [f1 _ (EL.sqL_of ht)] at e3
      cases e3
      exact ⟨Ex.new hT, zip_pair hT rfl p3⟩
end
end UX

set_option Elab.async false
set_option linter.all false
set_option maxRecDepth 100000
set_option maxHeartbeats 4000000
set_option autoImplicit false
namespace UX
open PySem PySem.Spec PyProof.Rows L2 UY
open EL (Ex RB BOk Bn TK)
def putU (d k v : U) : Option U := match d with
  | .dct ks us => if ks.length < sizeLine then match keyU k with
    | some k => match idxK k ks with
      | some j => if ks.Nodup then some (.dct ks (us.set j v)) else none
      | none => some (.dct (ks ++ [k]) (us ++ [v]))
    | none => none else none
  | .dcT ks us => if ks.length < sizeLine then match tkeyU k with
    | some k => match idxK k ks with
      | some j => if ks.Nodup then some (.dcT ks (us.set j v)) else none
      | none => some (.dcT (ks ++ [k]) (us ++ [v]))
    | none => none else none
  | _ => none
section
variable {κ : Type} [DecidableEq κ]
theorem idx_any {k : κ} : ∀ {ks : List κ} {vs : List V} {j : Nat}, ks.length = vs.length → idxK k ks = some j → ((ks.zip vs).any fun kv => decide (kv.1 = k)) = true
  | [], _, _, _, e => by cases e
  | x :: ks, [], _, l, _ => by cases l
  | x :: ks, v :: vs, j, l, e => by
    unfold idxK at e
    by_cases z : x = k
    · simp [z]
    · rw [if_neg z] at e
      obtain ⟨j', e', rfl⟩ := Option.map_eq_some_iff.mp e
      rw [List.zip_cons_cons, List.any_cons, idx_any (by simpa using l) e', Bool.or_true]
theorem putK_at {k : κ} {y : V} {ks : List κ} {vs : List V} {j : Nat} (l : ks.length = vs.length) (nd : ks.Nodup) (e : idxK k ks = some j) : putK (ks.zip vs) k y = ks.zip (vs.set j y) := by
  unfold putK
  rw [if_pos (idx_any l e)]
  exact putK_set l nd e
end
section
variable {F : Fr} {S L : Type} {δ : Dl} {δn : S → Dl} {δl : L → Dl} {t2 : TS} {i : Nat}
theorem im_tkey {G : Cxt} {rs : List Addr} {B : Bn} {H : Hp} {u : U} {v : V} {k : List Key} (e : tkeyU u = some k) (h : im G rs B u v H) : ∃ b, v = .ref b ∧ H b = some (.tup (k.map kV)) := by
  cases u <;> simp [tkeyU] at e
  obtain ⟨b, vs, rfl, hb, hv⟩ := h
  rw [im_keys e hv] at hb
  exact ⟨b, rfl, hb⟩
theorem put_zip {κ : Type} [DecidableEq κ] {ks ks' : List κ} {us us' : List U} {key : κ} {x : U} {vs : List V} {v : V} {G : Cxt} {rs : List Addr} {B : Bn} {H : Hp} (l : ks.length = us.length) (hv : imAll G rs B us vs H) (hx : im G rs B x v H)
    (e : (match idxK key ks with | some j => if ks.Nodup then some (ks, us.set j x) else none | none => some (ks ++ [key], us ++ [x])) = some (ks', us')) : ∃ vs', putK (ks.zip vs) key v = ks'.zip vs' ∧ ks'.length = us'.length ∧ imAll G rs B us' vs' H := by
  have ll : ks.length = vs.length := by rw [l, imAll_len hv]
  cases ei : idxK key ks with
  | some j =>
    rw [ei] at e
    simp only at e
    split at e
    · rename_i nd
      cases e
      exact ⟨vs.set j v, putK_at ll nd ei, by rw [List.length_set, l], imAll_set hv hx⟩
    · cases e
  | none =>
    rw [ei] at e
    cases e
    exact ⟨vs ++ [v], putK_zip ll ei, by simp [l], imAll_snoc hv hx⟩
theorem SDo.redo {os : Os} {as : SA} {st : Sto} {γ : List (U × V)} {σ : L2.St} {H : Hp} {d' : U} {a : Addr} {o o' : HO} (Q : SDo F os as st γ H σ δ) (m : (i, [a]) ∈ os) (e0 : σ[i]? = some (some (.ref a))) (e3 : H a = some o) (nt : ∀ xs, o ≠ .tup xs) (nf : ∀ y u, o ≠ .frz y u)
    (hn : (∀ {us : List U} {vs : List V}, imAll F.G (rts as) (ban F os as) us vs H → imAll F.G (rts as) (ban F os as) us vs (upd H a o')) → ownD F.G (rts as) (ban F os as) (.dct .leaf) d' (.ref a) (upd H a o') [a]) : SDo F os as st γ (upd H a o') σ (δ.set i (some (.own (.dct .leaf) d'))) := by
  have so := setOs_same Q.ix m
  have c : Chg F os as H (upd H a o') i [a] [a] a := chg_same m List.mem_cons_self Q e3 nt nf
  have := Q.mut c (x := some (.own (.dct .leaf) d')) fun s es => by
    cases es
    refine ⟨_, _, .ref a, rfl, e0, ?_⟩
    rw [so]
    exact hn fun h => by have := c.imAll h; rw [so] at this; exact this
  rw [so] at this
  exact this
theorem SDo.put {os : Os} {as : SA} {st : Sto} {γ : List (U × V)} {σ : L2.St} {H : Hp} {d k x d' : U} {y v : V} (Q : SDo F os as st γ H σ δ) (hd : δ[i]? = some (some (.own (.dct .leaf) d))) (e : putU d k x = some d') (pk : im F.G (rts as) (ban F os as) k y H) (px : im F.G (rts as) (ban F os as) x v H) :
    ∃ a H', σ[i]? = some (some (.ref a)) ∧ DPut H a y v H' ∧ SDo F os as st γ H' σ (δ.set i (some (.own (.dct .leaf) d'))) := by
  obtain ⟨v0, e0, A, m, o⟩ := Q.get hd
  cases d with
  | dct ks us =>
    obtain ⟨a, vs, e1, e2, e3, l, hv⟩ := own_dct.mp o
    subst e1 e2
    simp only [putU] at e
    split at e
    · rename_i hl
      cases ek : keyU k with
      | none => rw [ek] at e; cases e
      | some key =>
        rw [ek] at e
        simp only at e
        have ey := im_key ek pk
        subst ey
        have hz : (ks.zip vs).length < sizeLine := by rw [List.length_zip]; omega
        obtain ⟨ks', us', e5, rfl⟩ : ∃ ks' us', (match idxK key ks with | some j => if ks.Nodup then some (ks, us.set j x) else none | none => some (ks ++ [key], us ++ [x])) = some (ks', us') ∧ d' = .dct ks' us' := by
          cases ei : idxK key ks with
          | some j =>
            rw [ei] at e
            simp only at e ⊢
            split at e
            · rename_i nd
              cases e
              exact ⟨_, _, if_pos nd, rfl⟩
            · cases e
          | none => rw [ei] at e; cases e; exact ⟨_, _, rfl, rfl⟩
        obtain ⟨vs', p1, p2, p3⟩ := put_zip l hv px e5
        refine ⟨a, _, e0, DPut.k e3 hz, ?_⟩
        rw [p1]
        exact Q.redo m e0 e3 (fun _ z => nomatch z) (fun _ _ z => nomatch z) fun t => own_dct.mpr ⟨a, vs', rfl, rfl, upd_same, p2, t p3⟩
    · cases e
  | dcT ks us =>
    obtain ⟨a, vs, e1, e2, e3, l, hv⟩ := own_dcT.mp o
    subst e1 e2
    simp only [putU] at e
    split at e
    · rename_i hl
      cases ek : tkeyU k with
      | none => rw [ek] at e; cases e
      | some key =>
        rw [ek] at e
        simp only at e
        obtain ⟨b, ey, hb⟩ := im_tkey ek pk
        subst ey
        have hz : (ks.zip vs).length < sizeLine := by rw [List.length_zip]; omega
        obtain ⟨ks', us', e5, rfl⟩ : ∃ ks' us', (match idxK key ks with | some j => if ks.Nodup then some (ks, us.set j x) else none | none => some (ks ++ [key], us ++ [x])) = some (ks', us') ∧ d' = .dcT ks' us' := by
          cases ei : idxK key ks with
          | some j =>
            rw [ei] at e
            simp only at e ⊢
            split at e
            · rename_i nd
              cases e
              exact ⟨_, _, if_pos nd, rfl⟩
            · cases e
          | none => rw [ei] at e; cases e; exact ⟨_, _, rfl, rfl⟩
        obtain ⟨vs', p1, p2, p3⟩ := put_zip l hv px e5
        refine ⟨a, _, e0, DPut.t e3 hb hz, ?_⟩
        rw [p1]
        exact Q.redo m e0 e3 (fun _ z => nomatch z) (fun _ _ z => nomatch z) fun t => own_dcT.mpr ⟨a, vs', rfl, rfl, upd_same, p2, t p3⟩
    · cases e
  | _ => cases e
end
section
variable {F : Fr} {S L : Type} {δ : Dl} {i : Nat} {Sh0 : Sh} {te td tx : TE}
def xitemM (wd : M U) (wx : M (U × U)) : M (U × U) := .bind wd fun d => .bind wx fun p => .o ((itemU d p.1).map fun u => (u, p.2))
def itX (w : M (U × U)) : M (List U × U) := .bind w fun p => .o ((itU p.1).map fun us => (us, p.2))
end
section
variable {F : Fr} {S L : Type} {δ : Dl} {i : Nat} {Sh0 : Sh} {wi : TI} {g : TG} {tb : TS} {wl : M (List U × U)} {δ2 : L → Dl}
end
end UX

set_option Elab.async false
set_option linter.all false
set_option maxRecDepth 100000
set_option maxHeartbeats 4000000
set_option autoImplicit false
namespace UX
open PySem PySem.Spec PyProof.Rows L2 UY
open EL (Ex RB BOk Bn TK)
def IsDO : HO → Prop
  | .dK _ => True
  | .dT _ => True
  | .ext _ => True
  | _ => False
section
variable {B : Bn} {H : Hp} {d : Addr} {u0 : HO} {od : Obj}
theorem kd_lock (hd : H d = some u0) (hu : IsDO u0) : Kd B H (upd H d (.frz od u0)) := by
  have ne : ∀ {a : Addr} {o : HO}, H a = some o → (IsDO o → False) → a ≠ d := fun {a o} h n e => by
    rw [e, hd] at h; cases h; exact n hu
  refine ⟨fun a xs _ h => ?_, fun a C dx fs _ h => ?_, fun a kvs _ h => ?_, fun a kvs _ h => ?_, fun a b kvs _ h => ?_, fun a xs h => ?_, fun a o xs h => ?_, fun a o xs h => ?_⟩
  · rw [upd_ne (ne h id)]; exact h
  · rw [upd_ne (ne h id)]; exact h
  · rcases h with h | ⟨o, h⟩
    · by_cases z : a = d
      · subst z; rw [hd] at h; cases h; exact .inr ⟨od, upd_same⟩
      · exact .inl (by rw [upd_ne z]; exact h)
    · exact .inr ⟨o, by rw [upd_ne (ne h id)]; exact h⟩
  · rcases h with h | ⟨o, h⟩
    · by_cases z : a = d
      · subst z; rw [hd] at h; cases h; exact .inr ⟨od, upd_same⟩
      · exact .inl (by rw [upd_ne z]; exact h)
    · exact .inr ⟨o, by rw [upd_ne (ne h id)]; exact h⟩
  · rcases h with h | ⟨o, h⟩
    · by_cases z : a = d
      · subst z; rw [hd] at h; cases h; exact .inr ⟨od, upd_same⟩
      · exact .inl (by rw [upd_ne z]; exact h)
    · exact .inr ⟨o, by rw [upd_ne (ne h id)]; exact h⟩
  · rw [upd_ne (ne h id)]; exact h
  · rw [upd_ne (ne h id)]; exact h
  · rw [upd_ne (ne h id)]; exact h
theorem kd_unlock (hd : H d = some (.frz od u0)) (hu : IsDO u0) : Kd B H (upd H d u0) := by
  refine ⟨fun a xs _ h => ?_, fun a C dx fs _ h => ?_, fun a kvs _ h => ?_, fun a kvs _ h => ?_, fun a b kvs _ h => ?_, fun a xs h => ?_, fun a o xs h => ?_, fun a o xs h => ?_⟩
  · rw [upd_ne (fun e => by rw [e, hd] at h; cases h)]; exact h
  · rw [upd_ne (fun e => by rw [e, hd] at h; cases h)]; exact h
  · by_cases z : a = d
    · subst z
      rcases h with h | ⟨o, h⟩ <;> rw [hd] at h <;> cases h
      exact .inl upd_same
    · rcases h with h | ⟨o, h⟩
      · exact .inl (by rw [upd_ne z]; exact h)
      · exact .inr ⟨o, by rw [upd_ne z]; exact h⟩
  · by_cases z : a = d
    · subst z
      rcases h with h | ⟨o, h⟩ <;> rw [hd] at h <;> cases h
      exact .inl upd_same
    · rcases h with h | ⟨o, h⟩
      · exact .inl (by rw [upd_ne z]; exact h)
      · exact .inr ⟨o, by rw [upd_ne z]; exact h⟩
  · by_cases z : a = d
    · subst z
      rcases h with h | ⟨o, h⟩ <;> rw [hd] at h <;> cases h
      exact .inl upd_same
    · rcases h with h | ⟨o, h⟩
      · exact .inl (by rw [upd_ne z]; exact h)
      · exact .inr ⟨o, by rw [upd_ne z]; exact h⟩
  · rw [upd_ne (fun e => by rw [e, hd] at h; cases h)]; exact h
  · rw [upd_ne (fun e => by rw [e, hd] at h; cases h; exact hu)]; exact h
  · rw [upd_ne (fun e => by rw [e, hd] at h; cases h; exact hu)]; exact h
end
noncomputable def inF (F : Fr) (os : Os) (H : Hp) (as : SA) : Fr := ⟨F.G, F.B, fun a => @ite _ (a ∈ flo os) (Classical.propDecidable _) none (H a), as, noR⟩
section
variable {F : Fr} {os : Os} {as as' : SA} {st st' : Sto} {γ : List (U × V)} {H H' : Hp} {σ : L2.St} {δ : Dl} {d : Addr} {u0 : HO} {od : Obj}
theorem inF_some {a : Addr} {o : HO} (h : (inF F os H as).H0 a = some o) : a ∉ flo os ∧ H a = some o := by
  unfold inF at h
  simp only at h
  by_cases z : a ∈ flo os
  · rw [if_pos z] at h; cases h
  · rw [if_neg z] at h; exact ⟨z, h⟩
theorem inF_none {a : Addr} (h : (inF F os H as).H0 a = none) : a ∈ flo os ∨ H a = none := by
  unfold inF at h
  simp only at h
  by_cases z : a ∈ flo os
  · exact .inl z
  · rw [if_neg z] at h; exact .inr h
theorem inF_own {a : Addr} (h : a ∈ flo os) : (inF F os H as).H0 a = none := by
  unfold inF
  simp only
  rw [if_pos h]
theorem SDo.within (S : SDo F os as st γ H σ δ) (kd : ∀ B : Bn, Kd B H H') (kp : ∀ a, a ∈ flo os ∨ a ∈ fl as → H' a = H a) (al : ∀ a, H a ≠ none → H' a ≠ none) : SDo (inF F os H' as) os as st γ H' σ δ := by
  have up : ∀ u v, im F.G (rts as) (ban F os as) u v H → im F.G (rts as) (ban F os as) u v H' := fun u v h => im_kd (kd _) u v h
  refine ⟨fun p m => up _ _ (S.gh p m), ⟨⟨fun a o n e => (inF_some e).2, fun a xs e => (inF_some e).2, fun a o u e => (inF_some e).2, fun a m e => ?_⟩, fun _ _ h => h, fun _ h => .inl h⟩, fun a b => al a (S.ok a b), S.nd, S.ix, fun a m => inF_own m, S.nb, StOk.mono up (fun a xs h => (kd noB).tup a xs h) (fun a m => kp a (.inr m)) S.sto, S.len, fun i s e => ?_⟩
  · cases e1 : (inF F os H' as).H0 a with
    | none => exact absurd e1 e
    | some o => rw [(inF_some e1).2]; exact fun z => nomatch z
  · obtain ⟨v, h1, h2⟩ := S.at_ i s e
    refine ⟨v, h1, ?_⟩
    match s, h2 with
    | .im u, h2 => exact up _ _ h2
    | .raw _, h2 => exact h2
    | .own s u, ⟨A, m, h2⟩ => exact ⟨A, m, own_mono up (fun a xs h => (kd noB).tup a xs h) s u v A (fun a z => kp a (.inl (mem_flo m z))) h2⟩
theorem SDo.without {os' : Os} {H1 H2 : Hp} (S : SDo F os as st γ H σ δ) (hn : ∀ a, H1 a = none → H a = none) (S' : SDo (inF F os H1 as) os' as' st' γ H' σ δ) (g : Go as as' H H2) (kd : ∀ B : Bn, Kd B H' H2) (kp : ∀ a, a ∈ flo os' ∨ a ∈ fl as' → H2 a = H' a) (al : ∀ a, H' a ≠ none → H2 a ≠ none) : SDo F os' as' st' γ H2 σ δ := by
  have up : ∀ u v, im F.G (rts as') (ban F os' as') u v H' → im F.G (rts as') (ban F os' as') u v H2 := fun u v h => im_kd (kd _) u v h
  refine ⟨fun p m => up _ _ (S'.gh p m), S.rel.trans g, fun a b => al a (S'.ok a b), S'.nd, S'.ix, fun a m => ?_, S'.nb, StOk.mono up (fun a xs h => (kd noB).tup a xs h) (fun a m => kp a (.inr m)) S'.sto, S'.len, fun i s e => ?_⟩
  · rcases inF_none (S'.new a m) with z | z
    · exact S.new a z
    · exact S.rel.fresh (hn a z)
  · obtain ⟨v, h1, h2⟩ := S'.at_ i s e
    refine ⟨v, h1, ?_⟩
    match s, h2 with
    | .im u, h2 => exact up _ _ h2
    | .raw _, h2 => exact h2
    | .own s u, ⟨A, m, h2⟩ => exact ⟨A, m, own_mono up (fun a xs h => (kd noB).tup a xs h) s u v A (fun a z => kp a (.inl (mem_flo m z))) h2⟩
end
def kU : Key → U
  | .inl i => .int i
  | .inr x => .str x
def keysL : U → Option (List U)
  | .dct ks _ => some (ks.map kU)
  | .dcT ks _ => some (ks.map fun k => .tup (k.map kU))
  | _ => none
def keysW (w : M U) : M (List U) := .bind w fun u => .o (keysL u)
def tOrE (t t' : TE) : TE := fun σ H Q => t σ H Q ∨ t' σ H Q
section
variable {F : Fr} {δ : Dl} {wi : TI} {g : TG} {tt : TT} {te : TE} {vs : List Nat} {wl : M (List U)}
theorem lc_at {wt : U → M Bool} {we : U → M U} (no : noOwn δ vs = true) {os : Os} {as : SA} {st : Sto} {γ : List (U × V)} {σ : L2.St} {H : Hp} (S : SDo F os as st γ H σ δ)
    (hs : ∀ us st1, wl st = some (.ok us, st1) → ∀ Q : It → Hp → Prop, (∀ J H' as' gh, Go as as' H H' → SDo F os as' st1 (gh ++ (ghv σ δ vs ++ γ)) H' σ δ → WalkU F J us gh → Q J H') → wi σ H Q)
    (hb : ∀ u st r, wt u st = some r → ∃ δ', TgOk F g vs (wipD δ vs) u δ' ∧ EvT F tt δ' (wt u) ∧ EvW F te δ' (we u)) {c : U} {st' : Sto} (q : lcW wl wt we st = some (.ok c, st')) {QQ : VK}
    (k : ∀ v H' as' A, Go as as' H H' → (∀ k, k ∉ os.map (·.1) → SDo F ((k, A) :: os) as' st' γ H' σ δ) → ownD F.G (rts as') (ban F ((0, A) :: os) as') (.lst .leaf) c v H' A → (∀ a ∈ A, H a = none) → QQ v H') : tLc wi g tt te vs σ H QQ := by
  -- a source that is only asked at this state
  have q' := q
  obtain ⟨us, st1, qs, q⟩ := M.bind_inv q
  obtain ⟨r, st2, qr, q⟩ := M.bind_inv q
  obtain ⟨e, rfl⟩ := M.o_inv q
  unfold szU at e
  by_cases hsz : r.length ≤ sizeLine
  case neg => rw [if_neg hsz] at e; cases e
  rw [if_pos hsz] at e
  cases e
  refine hs us st1 qs _ fun J H1 as1 gh g1 S1 W D hD => ?_
  obtain ⟨k0, hk0, hkl⟩ := nodup_fresh (os.map (·.1)) δ.length
  have S2 := S1.grow hk0 hD (Ex.new (o := .lst []) hD) (by rw [upd_same]; exact fun z => nomatch z)
  have hD0 : H D = none := g1.fresh hD
  have hkw : (wipD δ vs).length ≤ k0 := by rw [wipD_len]; exact hkl
  refine ⟨fun i m Hc => m = us.length - i ∧ i ≤ us.length ∧ ∃ as2 st2 accU rest, Go as as2 H Hc ∧ LS F os k0 D as2 st2 (gh ++ (ghv σ δ vs ++ γ)) Hc (L2.wipe σ vs) (wipD δ vs) accU ∧ compM wt we (us.drop i) st2 = some (.ok rest, st') ∧ accU ++ rest = r,
    ⟨us.length, by simp, Nat.zero_le _, as1, st1, [], r, go_new (H1 := H) g1 hD0, ⟨S2.wipe vs, [], upd_same, rfl⟩, by rw [List.drop_zero]; exact qr, rfl⟩, ?_⟩
  rintro i m Hc ⟨rfl, hi, as2, st2, accU, rest, g2, l2, q2, er⟩
  by_cases hlt : i < us.length
  · right
    refine ⟨W.goes i _ as2 st2 _ _ _ Hc hlt l2.S, fun H' => ∃ m', m' < us.length - i ∧ m' = us.length - (i + 1) ∧ i + 1 ≤ us.length ∧ ∃ as2 st2 accU rest, Go as as2 H H' ∧ LS F os k0 D as2 st2 (gh ++ (ghv σ δ vs ++ γ)) H' (L2.wipe σ vs) (wipD δ vs) accU ∧ compM wt we (us.drop (i + 1)) st2 = some (.ok rest, st') ∧ accU ++ rest = r, fun H' ⟨m', h1, h2, h3⟩ => ⟨m', h1, h2, h3⟩, fun x H' y => ?_⟩
    have ed : us.drop i = us[i] :: us.drop (i + 1) := List.drop_eq_getElem_cons hlt
    rw [ed, compM] at q2
    obtain ⟨b, st3, q3, q2⟩ := M.bind_inv q2
    obtain ⟨δ', tg, ht, he⟩ := hb us[i] st2 _ q3
    obtain ⟨ex, px⟩ := W.yields i _ as2 st2 _ _ _ x Hc H' us[i] (List.getElem?_eq_getElem hlt) l2.S y
    have gx : Go as2 as2 Hc H' := Go.of_ex ex
    have l3 := l2.go gx (l2.S.ex ex)
    refine tg.2 _ as2 st2 _ H' _ x l3.S px _ fun σ2 wq S3 => ⟨by rw [wq, wipe_idem], ?_⟩
    have back : ∀ {as4 : SA} {st4 : Sto} {H4 : Hp}, SDo F ((k0, [D]) :: os) as4 st4 (gh ++ (ghv σ δ vs ++ γ)) H4 σ2 δ' → SDo F ((k0, [D]) :: os) as4 st4 (gh ++ (ghv σ δ vs ++ γ)) H4 (L2.wipe σ vs) (wipD δ vs) := fun S4 => by
      have := S4.wipe vs
      rw [wq, wipe_idem, tg.1, wipD_idem] at this
      exact this
    refine ht _ as2 st2 _ σ2 H' b st3 S3 q3 _ fun H3 as3 g3 S4 => ?_
    cases b with
    | false => exact ⟨us.length - (i + 1), by omega, rfl, hlt, as3, st3, accU, rest, (g2.trans gx).trans g3, l3.go g3 (back S4), q2, er⟩
    | true =>
      simp only [if_true] at q2 ⊢
      obtain ⟨u, st5, q5, q2⟩ := M.bind_inv q2
      obtain ⟨r', st6, q6, q2⟩ := M.bind_inv q2
      cases q2
      refine he _ as3 st3 _ σ2 H3 u st5 S4 q5 _ fun y H5 as5 g5 S5 py => ?_
      obtain ⟨acc, e1, e2, l5⟩ := ((l3.go g3 (back S4)).go g5 (back S5)).push hkw py
      refine ⟨acc, e1, ?_, us.length - (i + 1), by omega, rfl, hlt, as5, st5, accU ++ [u], r', go_new (H1 := H) (((g2.trans gx).trans g3).trans g5) hD0, l5, q6, by rw [List.append_assoc]; exact er⟩
      rw [e2]
      rw [← er, List.length_append, List.length_cons] at hsz
      omega
  · left
    have e : i = us.length := by omega
    subst e
    rw [List.drop_length] at q2
    cases q2
    rw [List.append_nil] at er
    subst er
    refine ⟨W.stops _ as2 _ _ _ _ Hc l2.S, ?_⟩
    obtain ⟨acc, e1, h1⟩ := l2.a
    refine k _ Hc as2 [D] g2 (fun k hk => ?_) (own_lst.mpr ⟨D, acc, rfl, rfl, e1, h1⟩) fun a m => by rw [List.mem_singleton] at m; rw [m]; exact hD0
    have : SDo F ((k0, [D]) :: os) as2 _ γ Hc σ δ := SDo.restore (g := []) (vs := vs) S no l2.S.unghost
    exact this.reix hkl hk
end
end UX

set_option Elab.async false
set_option linter.all false
set_option maxRecDepth 100000
set_option maxHeartbeats 4000000
set_option autoImplicit false
namespace UX
open PySem PySem.Spec PyProof.Rows L2 UY
open EL (Ex RB BOk Bn TK)
def tOrS (t t' : TS) : TS := fun D σ H => t D σ H ∨ t' D σ H
theorem ps_orS {X : Cx} {st : Stmt} {t t' : TS} (h : PS X st t) (h' : PS X st t') : PS X st (tOrS t t') := ⟨fun pins s σ H D I z => z.elim (fun z => h.run pins s σ H D I z) fun z => h'.run pins s σ H D I z⟩
theorem ps_lockS {X : Cx} {st : Stmt} {t : TS} (h : PS X st t) : PS X st (tOrS (tLock t) t) := ps_orS (ps_lock h) h
section
variable {F : Fr} {S L : Type} {δ : Dl} {δn : S → Dl} {δl : L → Dl} {t2 : TS} {i : Nat} {X : TE} {w : M U}
theorem blk_setK {k : U → M (Out S L)} (h : EvW F (tOrE (tLockE X) X) δ w) (h2 : ∀ u, Blk F t2 (δ.set i (some (.im u))) (k u) δn δl) : Blk F (tSeq (tOrS (tLock (tAsg X (gName i))) (tAsg X (gName i))) t2) δ (.bind w k) δn δl := fun D os as st γ σ H o st' Q q P =>
  (blk_set h h2) D os as st γ σ H o st' Q q P
end
section
variable {F : Fr} {os os' : Os} {as as' : SA} {st st' : Sto} {γ : List (U × V)} {H H' : Hp} {σ : L2.St} {δ : Dl} {i k : Nat} {A : List Addr}
theorem flo_perm (p : os.Perm os') : (flo os).Perm (flo os') := (p.map _).flatten
theorem ban_perm (p : os.Perm os') {a : Addr} : ban F os as a ↔ ban F os' as a := by
  unfold ban
  rw [(flo_perm p).mem_iff]
theorem SDo.perm (S : SDo F os as st γ H σ δ) (p : os.Perm os') : SDo F os' as st γ H σ δ := by
  have up : ∀ u v, im F.G (rts as) (ban F os as) u v H → im F.G (rts as) (ban F os' as) u v H := fun u v h => im_sub (fun a _ b => (ban_perm p).mpr b) u v h
  refine ⟨fun q m => up _ _ (S.gh q m), S.rel, fun a b => S.ok a ((ban_perm p).mpr b), ((flo_perm p).append_right _).nodup S.nd, (p.map _).nodup S.ix, fun a m => S.new a ((flo_perm p).mem_iff.mpr m), fun a m => S.nb a (m.imp (fun m => (flo_perm p).mem_iff.mpr m) id), StOk.mono up (fun _ _ h => h) (fun _ _ => rfl) S.sto, S.len, fun i s e => ?_⟩
  obtain ⟨v, h1, h2⟩ := S.at_ i s e
  refine ⟨v, h1, ?_⟩
  match s, h2 with
  | .im u, h2 => exact up _ _ h2
  | .raw _, h2 => exact h2
  | .own s u, ⟨A, m, h2⟩ => exact ⟨A, p.mem_iff.mp m, own_mono up (fun _ _ h => h) s u v A (fun _ _ => rfl) h2⟩
def Pend (F : Fr) (os : Os) (as : SA) (H : Hp) (s : Sh) (u : U) (v : V) (k : Nat) (A : List Addr) : Prop := (k, A) ∈ os ∧ ownD F.G (rts as) (ban F os as) s u v H A
theorem Pend.go {s : Sh} {u : U} {v : V} (p : Pend F os as H s u v k A) (S : SDo F os as st γ H σ δ) (g : Go as as' H H') : Pend F os as' H' s u v k A :=
  ⟨p.1, own_go g p.2 (fun a z q => (List.nodup_append.mp S.nd).2.2 a (mem_flo p.1 z) a q rfl) fun a z => S.ok a (.inr (.inl (mem_flo p.1 z)))⟩
theorem Pend.more {s : Sh} {u : U} {v : V} {j : Nat} {A' : List Addr} (p : Pend F os as H s u v k A) (S : SDo F os as st γ H σ δ) (hn : ∀ a ∈ A', H a = none) (g : Go as as' H H') : Pend F ((j, A') :: os) as' H' s u v k A := by
  refine ⟨List.mem_cons_of_mem _ p.1, own_go (F := F) (os := (j, A') :: os) g (own_mono (fun u v h => im_sub (sub_cons (F := F) (os := os) (as := as) (k := j) hn) u v h) (fun _ _ h => h) s u v A (fun _ _ => rfl) p.2) (fun a z q => (List.nodup_append.mp S.nd).2.2 a (mem_flo p.1 z) a q rfl) fun a z => S.ok a (.inr (.inl (mem_flo p.1 z)))⟩
theorem pend_new {s : Sh} {u : U} {v : V} (o : ownD F.G (rts as) (ban F ((0, A) :: os) as) s u v H A) : Pend F ((k, A) :: os) as H s u v k A :=
  ⟨List.mem_cons_self, own_mono (fun u v h => im_sub (fun a _ b => by
    rcases b with b | b | b
    · exact .inl b
    · exact .inr (.inl b)
    · exact .inr (.inr b)) u v h) (fun _ _ h => h) s u v A (fun _ _ => rfl) o⟩
theorem SDo.settle {s : Sh} {u : U} {v : V} (S : SDo F os as st γ H σ δ) (hk : δ.length ≤ k) (p : Pend F os as H s u v k A) : ∃ os', SDo F os' as st γ H (σ.set i (some v)) (δ.set i (some (.own s u))) ∧
    ∀ (s2 : Sh) (u2 : U) (v2 : V) (k2 : Nat) (A2 : List Addr), k2 ≠ k → k2 ≠ i → Pend F os as H s2 u2 v2 k2 A2 → Pend F os' as H s2 u2 v2 k2 A2 := by
  have pm : os.Perm ((k, A) :: os.erase (k, A)) := List.perm_cons_erase p.1
  have S1 := S.perm pm
  have o := own_mono (fun u v h => im_sub (fun a _ b => (ban_perm (F := F) (as := as) pm).mpr (show ban F ((k, A) :: os.erase (k, A)) as a by
    rcases b with b | b | b
    · exact .inl b
    · exact .inr (.inl b)
    · exact .inr (.inr b))) u v h) (fun _ _ h => h) s u v A (fun _ _ => rfl) p.2 (B' := ban F ((0, A) :: os.erase (k, A)) as) (rs' := rts as)
  refine ⟨_, S1.own hk o, fun s2 u2 v2 k2 A2 n1 n2 p2 => ?_⟩
  have m2 : (k2, A2) ∈ os.erase (k, A) := (List.mem_erase_of_ne (fun e => n1 (Prod.mk.inj e).1)).mpr p2.1
  refine ⟨List.mem_cons_of_mem _ (List.mem_filter.mpr ⟨m2, by simpa using n2⟩), own_mono (fun u v h => im_sub (fun a _ b => ?_) u v h) (fun _ _ h => h) s2 u2 v2 A2 (fun _ _ => rfl) p2.2⟩
  rcases b with b | b | b
  · exact .inl b
  · refine .inr (.inl ((flo_perm pm).mem_iff.mpr ?_))
    rcases List.mem_append.mp (show a ∈ A ++ flo ((os.erase (k, A)).filter fun q => decide (q.1 ≠ i)) from b) with z | z
    · exact List.mem_append_left _ z
    · exact List.mem_append_right _ (flo_filt z)
  · exact .inr (.inr b)
end
end UX

set_option Elab.async false
set_option linter.all false
set_option maxRecDepth 100000
set_option maxHeartbeats 4000000
set_option autoImplicit false
namespace UX
open PySem PySem.Spec PyProof.Rows L2 UY
open EL (Ex RB BOk Bn TK)
section
variable {F : Fr} {S L : Type} {δ : Dl} {tz : TS} {δn : S → Dl} {δl : L → Dl}
theorem blk_par_WN {i0 i1 : Nat} {t0 t1 : TE} {w0 w1 : M U} {s1 : Sh} {k : U → U → M (Out S L)} (h0 : EvW F t0 δ w0) (h1 : EvN F s1 t1 δ w1) (h : ∀ a0 a1, Blk F tz ((δ.set i0 (some (.im a0))).set i1 (some (.own s1 a1))) (k a0 a1) δn δl) : Blk F (tSeq (tPar i0 i1 (tCons t0 (tCons t1 tNil))) tz) δ (.bind w0 fun a0 => .bind w1 fun a1 => k a0 a1) δn δl := fun D os as st γ σ H o st' Q q P => by
  obtain ⟨a0, st1, q0, r0⟩ := M.bind_inv q
  obtain ⟨a1, st2, q1, r1⟩ := M.bind_inv r0
  clear q r0
  refine h0 os as st γ σ H a0 _ Q q0 _ fun v0 H1 as1 g1 S1 p0 => ?_
  have T1 : SDo F os as1 st1 ([(a0, v0)] ++ γ) H1 σ δ := S1.ghost fun z m => by rw [List.mem_singleton] at m; rw [m]; exact p0
  refine h1 os as1 st1 ([(a0, v0)] ++ γ) σ H1 a1 _ T1 q1 _ fun v1 H2 as2 A1 g2 S2 p1 n1 => ?_
  obtain ⟨j1, m1, l1⟩ := nodup_fresh (os.map (·.1)) (max δ.length (i0 + i1 + 1))
  have T2 := S2 j1 m1
  have d1 := pend_new (k := j1) p1
  have E0 := T2.set (i := i0) (x := .im a0) (T2.gh (a0, v0) List.mem_cons_self)
  obtain ⟨o1, E1, f1⟩ := E0.settle (i := i1) (k := j1) (by (try simp only [List.length_set]); omega) d1
  exact ⟨v0, v1, rfl, h a0 a1 D _ as2 st2 γ _ H2 o st' (SDo.unghost (g := [(a0, v0)]) E1) r1 P⟩
theorem blk_tup_WN {i0 i1 : Nat} {t0 t1 : TE} {w0 w1 : M U} {s1 : Sh} {k : U → U → M (Out S L)} (h0 : EvW F t0 δ w0) (h1 : EvN F s1 t1 δ w1) (h : ∀ a0 a1, Blk F tz ((δ.set i0 (some (.im a0))).set i1 (some (.own s1 a1))) (k a0 a1) δn δl) : Blk F (tSeq (tAsg (tTup (tCons t0 (tCons t1 tNil))) (gTup F.G.K 2 (gCons (gName i0) (gCons (gName i1) gNil)))) tz) δ (.bind w0 fun a0 => .bind w1 fun a1 => k a0 a1) δn δl := fun D os as st γ σ H o st' Q q P => by
  obtain ⟨a0, st1, q0, r0⟩ := M.bind_inv q
  obtain ⟨a1, st2, q1, r1⟩ := M.bind_inv r0
  clear q r0
  refine h0 os as st γ σ H a0 _ Q q0 _ fun v0 H1 as1 g1 S1 p0 => ?_
  have T1 : SDo F os as1 st1 ([(a0, v0)] ++ γ) H1 σ δ := S1.ghost fun z m => by rw [List.mem_singleton] at m; rw [m]; exact p0
  refine h1 os as1 st1 ([(a0, v0)] ++ γ) σ H1 a1 _ T1 q1 _ fun v1 H2 as2 A1 g2 S2 p1 n1 => ?_
  obtain ⟨j1, m1, l1⟩ := nodup_fresh (os.map (·.1)) (max δ.length (i0 + i1 + 1))
  have T2 := S2 j1 m1
  have d1 := pend_new (k := j1) p1
  have E0 := T2.set (i := i0) (x := .im a0) (T2.gh (a0, v0) List.mem_cons_self)
  obtain ⟨o1, E1, f1⟩ := E0.settle (i := i1) (k := j1) (by (try simp only [List.length_set]); omega) d1
  have Z := (SDo.unghost (g := [(a0, v0)]) E1)
  exact ⟨(by decide : 2 ≤ sizeLine), fun p hp => ⟨p, [v0, v1], rfl, EL.sqT_of upd_same, rfl, v0, [v1], rfl, v1, [], rfl, rfl, h a0 a1 D _ as2 st2 γ _ _ o st' (Z.ex (Ex.new hp)) r1 P⟩⟩
theorem blk_tup_WWN {i0 i1 i2 : Nat} {t0 t1 t2 : TE} {w0 w1 w2 : M U} {s2 : Sh} {k : U → U → U → M (Out S L)} (h0 : EvW F t0 δ w0) (h1 : EvW F t1 δ w1) (h2 : EvN F s2 t2 δ w2) (h : ∀ a0 a1 a2, Blk F tz (((δ.set i0 (some (.im a0))).set i1 (some (.im a1))).set i2 (some (.own s2 a2))) (k a0 a1 a2) δn δl) : Blk F (tSeq (tAsg (tTup (tCons t0 (tCons t1 (tCons t2 tNil)))) (gTup F.G.K 3 (gCons (gName i0) (gCons (gName i1) (gCons (gName i2) gNil))))) tz) δ (.bind w0 fun a0 => .bind w1 fun a1 => .bind w2 fun a2 => k a0 a1 a2) δn δl := fun D os as st γ σ H o st' Q q P => by
  obtain ⟨a0, st1, q0, r0⟩ := M.bind_inv q
  obtain ⟨a1, st2, q1, r1⟩ := M.bind_inv r0
  obtain ⟨a2, st3, q2, r2⟩ := M.bind_inv r1
  clear q r0 r1
  refine h0 os as st γ σ H a0 _ Q q0 _ fun v0 H1 as1 g1 S1 p0 => ?_
  have T1 : SDo F os as1 st1 ([(a0, v0)] ++ γ) H1 σ δ := S1.ghost fun z m => by rw [List.mem_singleton] at m; rw [m]; exact p0
  refine h1 os as1 st1 ([(a0, v0)] ++ γ) σ H1 a1 _ T1 q1 _ fun v1 H2 as2 g2 S2 p1 => ?_
  have T2 : SDo F os as2 st2 ([(a1, v1)] ++ ([(a0, v0)] ++ γ)) H2 σ δ := S2.ghost fun z m => by rw [List.mem_singleton] at m; rw [m]; exact p1
  refine h2 os as2 st2 ([(a1, v1)] ++ ([(a0, v0)] ++ γ)) σ H2 a2 _ T2 q2 _ fun v2 H3 as3 A2 g3 S3 p2 n2 => ?_
  obtain ⟨j2, m2, l2⟩ := nodup_fresh (os.map (·.1)) (max δ.length (i0 + i1 + i2 + 1))
  have T3 := S3 j2 m2
  have d2 := pend_new (k := j2) p2
  have E0 := T3.set (i := i0) (x := .im a0) (T3.gh (a0, v0) (List.mem_cons_of_mem _ List.mem_cons_self))
  have E1 := E0.set (i := i1) (x := .im a1) (E0.gh (a1, v1) List.mem_cons_self)
  obtain ⟨o2, E2, f2⟩ := E1.settle (i := i2) (k := j2) (by (try simp only [List.length_set]); omega) d2
  have Z := (SDo.unghost (g := [(a0, v0)]) (SDo.unghost (g := [(a1, v1)]) E2))
  exact ⟨(by decide : 3 ≤ sizeLine), fun p hp => ⟨p, [v0, v1, v2], rfl, EL.sqT_of upd_same, rfl, v0, [v1, v2], rfl, v1, [v2], rfl, v2, [], rfl, rfl, h a0 a1 a2 D _ as3 st3 γ _ _ o st' (Z.ex (Ex.new hp)) r2 P⟩⟩
end
end UX

set_option Elab.async false
set_option linter.all false
set_option maxRecDepth 100000
set_option maxHeartbeats 4000000
set_option autoImplicit false
namespace UX
open PySem PySem.Spec PyProof.Rows L2 UY
open EL (Ex RB BOk Bn TK)
section
variable {F : Fr}
end
end UX

set_option Elab.async false
set_option linter.all false
set_option maxRecDepth 100000
set_option maxHeartbeats 4000000
set_option autoImplicit false
namespace UX
open PySem PySem.Spec PyProof.Rows L2 UY
open EL (Ex RB BOk Bn TK rOr op_or)
def M.bind2 {β : Type} (w : M (U × U)) (k : U → U → M β) : M β := .bind w fun p => k p.1 p.2
section
variable {F : Fr} {S L : Type} {δ : Dl} {i j : Nat} {Sh0 : Sh} {te : TE} {t2 : TS} {δn : S → Dl} {δl : L → Dl}
end
def M.bindS {β : Type} (w : M (U × U)) (k : U → M β) : M β := .bind w fun p => k p.2
section
variable {F : Fr} {S L : Type} {δ : Dl} {i j : Nat} {Sh0 : Sh} {te : TE} {t2 : TS} {δn : S → Dl} {δl : L → Dl}
theorem blk_x2 {w : M (U × U)} {k : U → M (Out S L)} (h : EvX F i Sh0 te δ w) (h2 : ∀ u, Blk F t2 (δ.set i (some (.own Sh0 u))) (k u) δn δl) : Blk F (tSeq (tDrop te) t2) δ (.bindS w k) δn δl := blk_x h h2
end
def fV : U → Option V
  | .int i => some (.int i)
  | .str x => some (.str x)
  | .bl b => some (.bl b)
  | .non => some .non
  | _ => none
def fVs : List U → Option (List V)
  | [] => some []
  | u :: us => match fV u, fVs us with
    | some v, some vs => some (v :: vs)
    | _, _ => none
def seqOf : U → Option (List U)
  | .tup us => some us
  | .lst us => some us
  | _ => none
def inB (a b : U) : Option Bool := match fV a, seqOf b with
  | some v, some us => (fVs us).map fun vs => inV v vs
  | _, _ => match pd a, pd b with
    | some d, some (.list ds) => if SeqAt.shaped d = true ∧ SeqAt.shaped (.list ds) = true then some (ds.any fun z => PyData.eqv z d) else none
    | some d, some (.tuple ds) => if SeqAt.shaped d = true ∧ SeqAt.shaped (.tuple ds) = true then some (ds.any fun z => PyData.eqv z d) else none
    | _, _ => none
def inSU (a b : U) : Option U := (inB a b).map .bl
def notInSU (a b : U) : Option U := (inB a b).map fun t => .bl (!t)
theorem im_fV {G : Cxt} {rs : List Addr} {B : Bn} {H : Hp} {u : U} {v w : V} (e : fV u = some v) (h : im G rs B u w H) : w = v ∧ flatV v = true := by
  cases u <;> simp [fV] at e <;> subst e <;> exact ⟨h, rfl⟩
theorem im_fVs {G : Cxt} {rs : List Addr} {B : Bn} {H : Hp} : ∀ {us : List U} {vs ws : List V}, fVs us = some vs → imAll G rs B us ws H → ws = vs ∧ vs.all flatV = true
  | [], _, _, e, h => by cases e; exact ⟨h, rfl⟩
  | u :: us, vs, _, e, ⟨w, r, ew, h1, h2⟩ => by
    unfold fVs at e
    cases e1 : fV u with
    | none => rw [e1] at e; cases e
    | some v =>
      cases e2 : fVs us with
      | none => rw [e1, e2] at e; cases e
      | some vs' =>
        rw [e1, e2] at e
        cases e
        obtain ⟨h3, h4⟩ := im_fV e1 h1
        obtain ⟨h5, h6⟩ := im_fVs e2 h2
        subst ew h3 h5
        exact ⟨rfl, by rw [List.all_cons, h4, h6]; rfl⟩
def rInDT (K : PySem.W.Frag) : R2 := fun x y H Q => ∃ d ds, Dp K H x d ∧ Dp K H y (.tuple ds) ∧ SeqAt.shaped d = true ∧ SeqAt.shaped (.tuple ds) = true ∧ Q (.bl (ds.any fun z => PyData.eqv z d)) H
def rNotInDT (K : PySem.W.Frag) : R2 := fun x y H Q => ∃ d ds, Dp K H x d ∧ Dp K H y (.tuple ds) ∧ SeqAt.shaped d = true ∧ SeqAt.shaped (.tuple ds) = true ∧ Q (.bl (!ds.any fun z => PyData.eqv z d)) H
theorem op_inDT {X : Cx} (K : PySem.W.Frag) (hu : X.A.units + 66 < cLine) (h : X.K = K := by rfl) : OpR X (compareOp .In) (rInDT K) := by
  subst h
  intro pins s σ H x y v u Q I rx ry h
  obtain ⟨d, ds, hd, he, sd, se, q⟩ := h
  obtain ⟨as, r1⟩ := Dp.reads I d x v hd rx
  obtain ⟨bs, r2⟩ := Dp.reads I (.tuple ds) y u he ry
  exact SeqAt.in_tuple_reads r2 r1 (SeqAt.canLay_of_shaped se) (SeqAt.canLay_of_shaped sd) (room_in_shaped sd (by omega)) ⟨.bl _, H, I, rfl, q⟩
theorem op_notInDT {X : Cx} (K : PySem.W.Frag) (hu : X.A.units + 66 < cLine) (h : X.K = K := by rfl) : OpR X (compareOp .NotIn) (rNotInDT K) := by
  subst h
  intro pins s σ H x y v u Q I rx ry h
  obtain ⟨d, ds, hd, he, sd, se, q⟩ := h
  obtain ⟨as, r1⟩ := Dp.reads I d x v hd rx
  obtain ⟨bs, r2⟩ := Dp.reads I (.tuple ds) y u he ry
  exact SeqAt.notIn_tuple_reads r2 r1 (SeqAt.canLay_of_shaped se) (SeqAt.canLay_of_shaped sd) (room_in_shaped sd (by omega)) ⟨.bl _, H, I, rfl, q⟩
def rInA (K : PySem.W.Frag) : R2 := rOr (rIn K false) (rOr (rInD K) (rInDT K))
def rNotInA (K : PySem.W.Frag) : R2 := rOr (rIn K true) (rOr (rNotInD K) (rNotInDT K))
theorem op_inAK {X : Cx} (K : PySem.W.Frag) (hu : X.A.units + 66 < cLine) (h : X.K = K := by rfl) : OpR X (compareOp .In) (rInA K) := op_or (EL.op_inK K h) (op_or (EL.op_inDK K hu h) (op_inDT K hu h))
theorem op_notInAK {X : Cx} (K : PySem.W.Frag) (hu : X.A.units + 66 < cLine) (h : X.K = K := by rfl) : OpR X (compareOp .NotIn) (rNotInA K) := op_or (EL.op_notInK K h) (op_or (EL.op_notInDK K hu h) (op_notInDT K hu h))
section
variable {F : Fr}
theorem in_core {os : Os} {as : SA} {H : Hp} {a b : U} {x y : V} {t : Bool} (ha : rd F os as a x H) (hb : rd F os as b y H) (e : inB a b = some t) :
    (∃ p xs, y = .ref p ∧ (SqL F.G.K H p xs ∨ SqT F.G.K H p xs) ∧ flatV x = true ∧ xs.all flatV = true ∧ t = inV x xs) ∨ (∃ d ds, Dp F.G.K H x d ∧ Dp F.G.K H y (.list ds) ∧ SeqAt.shaped d = true ∧ SeqAt.shaped (.list ds) = true ∧ t = ds.any fun z => PyData.eqv z d) ∨ ∃ d ds, Dp F.G.K H x d ∧ Dp F.G.K H y (.tuple ds) ∧ SeqAt.shaped d = true ∧ SeqAt.shaped (.tuple ds) = true ∧ t = ds.any fun z => PyData.eqv z d := by
  have deep : (match pd a, pd b with
    | some d, some (.list ds) => if SeqAt.shaped d = true ∧ SeqAt.shaped (.list ds) = true then some (ds.any fun z => PyData.eqv z d) else none
    | some d, some (.tuple ds) => if SeqAt.shaped d = true ∧ SeqAt.shaped (.tuple ds) = true then some (ds.any fun z => PyData.eqv z d) else none
    | _, _ => none) = some t → (∃ d ds, Dp F.G.K H x d ∧ Dp F.G.K H y (.list ds) ∧ SeqAt.shaped d = true ∧ SeqAt.shaped (.list ds) = true ∧ t = ds.any fun z => PyData.eqv z d) ∨ ∃ d ds, Dp F.G.K H x d ∧ Dp F.G.K H y (.tuple ds) ∧ SeqAt.shaped d = true ∧ SeqAt.shaped (.tuple ds) = true ∧ t = ds.any fun z => PyData.eqv z d := fun e => by
    cases e1 : pd a with
    | none => rw [e1] at e; cases e
    | some d =>
      cases e2 : pd b with
      | none => rw [e1, e2] at e; cases e
      | some d2 =>
        rw [e1, e2] at e
        cases d2 with
        | list ds =>
          simp only at e
          split at e
          · rename_i h
            cases e
            exact .inl ⟨d, ds, rd_dp ha e1, rd_dp hb e2, h.1, h.2, rfl⟩
          · cases e
        | tuple ds =>
          simp only at e
          split at e
          · rename_i h
            cases e
            exact .inr ⟨d, ds, rd_dp ha e1, rd_dp hb e2, h.1, h.2, rfl⟩
          · cases e
        | _ => cases e
  unfold inB at e
  cases e1 : fV a with
  | none => rw [e1] at e; exact .inr (deep (by simpa using e))
  | some v =>
    cases e2 : seqOf b with
    | none => rw [e1, e2] at e; exact .inr (deep (by simpa using e))
    | some us =>
      rw [e1, e2] at e
      obtain ⟨vs, e3, rfl⟩ := Option.map_eq_some_iff.mp e
      obtain ⟨h1, h2⟩ := im_fV e1 (rd_im0 ha)
      subst h1
      left
      have hb0 := rd_im0 hb
      cases b <;> simp [seqOf] at e2
      · subst e2
        obtain ⟨p, ws, rfl, hp, hv⟩ := hb0
        obtain ⟨h3, h4⟩ := im_fVs e3 hv
        subst h3
        exact ⟨p, ws, rfl, .inr (EL.sqT_of hp), h2, h4, rfl⟩
      · subst e2
        obtain ⟨p, ws, rfl, _, hp, hv⟩ := hb0
        obtain ⟨h3, h4⟩ := im_fVs e3 hv
        subst h3
        exact ⟨p, ws, rfl, .inl (EL.sqL_of hp), h2, h4, rfl⟩
theorem ok_in : OpOk F (rInA F.G.K) inSU := fun os as H a b c x y ok ha hb e QQ k => by
  obtain ⟨t, et, rfl⟩ := Option.map_eq_some_iff.mp e
  rcases in_core ha hb et with ⟨p, xs, h1, h2, h3, h4, h5⟩ | ⟨d, ds, h1, h2, h3, h4, h5⟩ | ⟨d, ds, h1, h2, h3, h4, h5⟩
  · exact .inl ⟨p, xs, h1, h2, h3, h4, k _ H (Ex.refl _) (by rw [h5]; rfl)⟩
  · exact .inr (.inl ⟨d, ds, h1, h2, h3, h4, k _ H (Ex.refl _) (by rw [h5]; rfl)⟩)
  · exact .inr (.inr ⟨d, ds, h1, h2, h3, h4, k _ H (Ex.refl _) (by rw [h5]; rfl)⟩)
theorem ok_notIn : OpOk F (rNotInA F.G.K) notInSU := fun os as H a b c x y ok ha hb e QQ k => by
  obtain ⟨t, et, rfl⟩ := Option.map_eq_some_iff.mp e
  rcases in_core ha hb et with ⟨p, xs, h1, h2, h3, h4, h5⟩ | ⟨d, ds, h1, h2, h3, h4, h5⟩ | ⟨d, ds, h1, h2, h3, h4, h5⟩
  · exact .inl ⟨p, xs, h1, h2, h3, h4, k _ H (Ex.refl _) (by rw [h5]; rfl)⟩
  · exact .inr (.inl ⟨d, ds, h1, h2, h3, h4, k _ H (Ex.refl _) (by rw [h5]; rfl)⟩)
  · exact .inr (.inr ⟨d, ds, h1, h2, h3, h4, k _ H (Ex.refl _) (by rw [h5]; rfl)⟩)
end
end UX

set_option Elab.async false
set_option linter.all false
set_option maxRecDepth 100000
set_option maxHeartbeats 4000000
set_option autoImplicit false
namespace UY
open PySem PySem.Spec PyProof.Rows L2 UX
section
variable {X : Cx} {pins : List (Addr × Obj)} {σ : L2.St} {H : Hp} {s : Shared} {a b : Addr} {r : Value} {d : V} {k : List Key} {A : Around} {E : Value → Shared → Prop}
end
section
variable {X : Cx} {o e f : Expr} {td ty tx : TE} {apos cpos : Pos}
end
end UY

set_option Elab.async false
set_option linter.all false
set_option maxRecDepth 100000
set_option maxHeartbeats 4000000
set_option autoImplicit false
namespace UY
open PySem PySem.Spec PyProof.Rows L2
section
variable {prog : Program} {w : World} {A : Around} {R : Result → Shared → Prop} {s : Shared} {env : Env} {el ta ia tb ib : Expr} {fa fb : List Expr} {sc : Scope} {ps : Pos} {it ac : Value}
end
section
variable {X : Cx}
end
end UY

set_option Elab.async false
set_option linter.all false
set_option maxRecDepth 100000
set_option maxHeartbeats 4000000
set_option autoImplicit false
namespace UX
open PySem PySem.Spec PyProof.Rows L2 UY
open EL (Ex RB BOk Bn TK)
section
variable {F : Fr} {δ : Dl} {wi wi1 : TI} {g g1 : TG} {tt tt1 : TT} {te : TE} {vs vs1 : List Nat} {w0 : M (List U)} {w : World}
end
end UX

set_option Elab.async false
set_option linter.all false
set_option maxRecDepth 100000
set_option maxHeartbeats 4000000
set_option autoImplicit false
namespace UX
open PySem PySem.Spec PyProof.Rows L2 UY
open EL (Ex RB BOk Bn TK)
section
variable {F : Fr} {S L : Type} {δ : Dl} {tz : TS} {δn : S → Dl} {δl : L → Dl}
theorem blk_tup_WW {i0 i1 : Nat} {t0 t1 : TE} {w0 w1 : M U} {k : U → U → M (Out S L)} (h0 : EvW F t0 δ w0) (h1 : EvW F t1 δ w1) (h : ∀ a0 a1, Blk F tz ((δ.set i0 (some (.im a0))).set i1 (some (.im a1))) (k a0 a1) δn δl) : Blk F (tSeq (tAsg (tTup (tCons t0 (tCons t1 tNil))) (gTup F.G.K 2 (gCons (gName i0) (gCons (gName i1) gNil)))) tz) δ (.bind w0 fun a0 => .bind w1 fun a1 => k a0 a1) δn δl := fun D os as st γ σ H o st' Q q P => by
  obtain ⟨a0, st1, q0, r0⟩ := M.bind_inv q
  obtain ⟨a1, st2, q1, r1⟩ := M.bind_inv r0
  clear q r0
  refine h0 os as st γ σ H a0 _ Q q0 _ fun v0 H1 as1 g1 S1 p0 => ?_
  have T1 : SDo F os as1 st1 ([(a0, v0)] ++ γ) H1 σ δ := S1.ghost fun z m => by rw [List.mem_singleton] at m; rw [m]; exact p0
  refine h1 os as1 st1 ([(a0, v0)] ++ γ) σ H1 a1 _ T1 q1 _ fun v1 H2 as2 g2 S2 p1 => ?_
  have T2 : SDo F os as2 st2 ([(a1, v1)] ++ ([(a0, v0)] ++ γ)) H2 σ δ := S2.ghost fun z m => by rw [List.mem_singleton] at m; rw [m]; exact p1
  have E0 := T2.set (i := i0) (x := .im a0) (T2.gh (a0, v0) (List.mem_cons_of_mem _ List.mem_cons_self))
  have E1 := E0.set (i := i1) (x := .im a1) (E0.gh (a1, v1) List.mem_cons_self)
  have Z := (SDo.unghost (g := [(a0, v0)]) (SDo.unghost (g := [(a1, v1)]) E1))
  exact ⟨(by decide : 2 ≤ sizeLine), fun p hp => ⟨p, [v0, v1], rfl, EL.sqT_of upd_same, rfl, v0, [v1], rfl, v1, [], rfl, rfl, h a0 a1 D _ as2 st2 γ _ _ o st' (Z.ex (Ex.new hp)) r1 P⟩⟩
end
end UX

set_option Elab.async false
set_option linter.all false
set_option maxRecDepth 100000
set_option maxHeartbeats 4000000
set_option autoImplicit false
namespace UY
open PySem PySem.Spec PyProof.Rows L2
section
variable {X : Cx}
end
end UY

set_option Elab.async false
set_option linter.all false
set_option maxRecDepth 100000
set_option maxHeartbeats 4000000
set_option autoImplicit false
namespace UX
open PySem PySem.Spec PyProof.Rows L2 UY
open EL (Ex RB BOk Bn TK)
section
variable {F : Fr}
end
end UX

set_option Elab.async false
set_option linter.all false
set_option maxRecDepth 100000
set_option maxHeartbeats 4000000
set_option autoImplicit false
namespace UY
open PySem PySem.Spec PyProof.Rows L2
section
variable {X : Cx} {pins : List (Addr × Obj)} {σ : L2.St} {H : Hp} {s : Shared}
end
end UY

set_option Elab.async false
set_option linter.all false
set_option maxRecDepth 100000
set_option maxHeartbeats 4000000
set_option autoImplicit false
namespace UX
open PySem PySem.Spec PyProof.Rows L2 UY
open EL (Ex RB BOk Bn TK)
section
variable {G : Cxt} {rs : List Addr} {B : Bn} {H : Hp}
end
section
variable {F : Fr}
end
end UX

set_option Elab.async false
set_option linter.all false
set_option maxRecDepth 100000
set_option maxHeartbeats 4000000
set_option autoImplicit false
namespace UX
open PySem PySem.Spec PyProof.Rows L2 UY
open EL (Ex RB BOk Bn TK)
section
variable {F : Fr} {S L : Type} {δ : Dl} {δn : S → Dl} {δl : L → Dl} {t2 : TS} {i : Nat}
theorem ownZ_snoc1 {P : Nat → U → V → Hp → List Addr → Prop} {H : Hp} {u : U} {v : V} {A' : List Addr} : ∀ {us : List U} {n : Nat} {vs : List V} {A : List Addr}, ownZ P n us vs H A → P (n + us.length) u v H A' → ownZ P n (us ++ [u]) (vs ++ [v]) H (A ++ A')
  | [], n, _, _, ⟨e1, e2⟩, p => by subst e1 e2; exact ⟨v, [], A', [], rfl, by simp, by simpa using p, rfl, rfl⟩
  | x :: us, n, _, _, ⟨w, r, A1, A2, e1, e2, h1, h2⟩, p => by
    subst e1 e2
    exact ⟨w, r ++ [v], A1, A2 ++ A', rfl, by simp, h1, ownZ_snoc1 h2 (by rw [show n + 1 + us.length = n + (us.length + 1) by omega]; exact p)⟩
end
end UX

set_option Elab.async false
set_option linter.all false
set_option maxRecDepth 100000
set_option maxHeartbeats 4000000
set_option autoImplicit false
namespace UX
open PySem PySem.Spec PyProof.Rows L2 UY
open EL (Ex RB BOk Bn TK)
section
variable {F : Fr} {δ : Dl} {ta : TA} {wa : M (List U)} {E : XK} {f : List U → M U}
end
end UX

set_option Elab.async false
set_option linter.all false
set_option maxRecDepth 100000
set_option maxHeartbeats 4000000
set_option autoImplicit false
namespace UX
open PySem PySem.Spec PyProof.Rows L2 UY
open EL (Ex RB BOk Bn TK)
def sumLU : U → Option U
  | .lst us => match intsL us with
    | some ns => some (.int ns.sum)
    | _ => none
  | _ => none
theorem cr_sumK {X : Cx} (K : PySem.W.Frag) (hc : X.calm = true) (h : X.K = K := by rfl) : CallR X (.builtin "sum") (rSum K) := h ▸ cr_sum hc
section
variable {F : Fr}
theorem ok_sumL : Op1Ok F (rSum F.G.K) sumLU := fun os as H a c x ok ha e QQ k => by
  cases a with
  | lst us => ?_
  | _ => cases e
  simp only [sumLU] at e
  cases q : intsL us with
  | none => rw [q] at e; cases e
  | some ns =>
    rw [q] at e
    cases e
    rw [intsL_eq q] at ha
    obtain ⟨a, xs, rfl, _, ta, qa⟩ := ha
    rw [imAll_intsV qa] at ta
    exact ⟨a, ns, rfl, .inl (.inl ta), k _ H (Ex.refl H) rfl⟩
end
end UX

set_option Elab.async false
set_option linter.all false
set_option maxRecDepth 100000
set_option maxHeartbeats 4000000
set_option autoImplicit false
namespace UY
open PySem PySem.Spec PyProof.Rows L2
section
variable {prog : Program} {w : World} {A : Around} {E : Value → Shared → Prop} {s : Shared}
end
section
variable {X : Cx}
end
end UY

set_option Elab.async false
set_option linter.all false
set_option maxRecDepth 100000
set_option maxHeartbeats 4000000
set_option autoImplicit false
namespace UX
open PySem PySem.Spec PyProof.Rows L2 UY
open EL (Ex RB BOk Bn TK)
section
variable {F : Fr} {δ : Dl} {te : TE} {wa : M U}
end
end UX

set_option Elab.async false
set_option linter.all false
set_option maxRecDepth 100000
set_option maxHeartbeats 4000000
set_option autoImplicit false
namespace UX
open PySem PySem.Spec PyProof.Rows L2 UY
open EL (Ex RB BOk Bn TK)
section
variable {F : Fr} {S L : Type} {δ : Dl} {tz : TS} {δn : S → Dl} {δl : L → Dl}
end
end UX

set_option Elab.async false
set_option linter.all false
set_option maxRecDepth 100000
set_option maxHeartbeats 4000000
set_option autoImplicit false
namespace UY
open PySem PySem.Spec PyProof.Rows L2
section
variable {X : Cx}
end
end UY

set_option Elab.async false
set_option linter.all false
set_option maxRecDepth 100000
set_option maxHeartbeats 4000000
set_option autoImplicit false
namespace UX
open PySem PySem.Spec PyProof.Rows L2 UY
open EL (Ex RB BOk Bn TK)
section
variable {F : Fr} {os : Os} {as as' : SA} {st st' : Sto} {γ : List (U × V)} {H H' : Hp} {σ : L2.St} {δ : Dl}
structure DS (F : Fr) (os : Os) (k0 : Nat) (D : Addr) (as : SA) (st : Sto) (γ : List (U × V)) (H : Hp) (σ : L2.St) (δ : Dl) (d : U) : Prop where
  S : SDo F ((k0, [D]) :: os) as st γ H σ δ
  a : (∃ ks us vs, d = .dct ks us ∧ H D = some (.dK (ks.zip vs)) ∧ ks.length = us.length ∧ imAll F.G (rts as) (ban F ((k0, [D]) :: os) as) us vs H) ∨
    ∃ ks us vs, d = .dcT ks us ∧ H D = some (.dT (ks.zip vs)) ∧ ks.length = us.length ∧ imAll F.G (rts as) (ban F ((k0, [D]) :: os) as) us vs H
variable {k0 : Nat} {D : Addr} {d : U}
theorem DS.go (l : DS F os k0 D as st γ H σ δ d) {σ' : L2.St} {δ' : Dl} (g : Go as as' H H') (S : SDo F ((k0, [D]) :: os) as' st' γ H' σ' δ') : DS F os k0 D as' st' γ H' σ' δ' d := by
  have keep : ∀ o, H D = some o → H' D = some o := fun o e => g.rb.keep _ _ (fun m => (List.nodup_append.mp l.S.nd).2.2 D (List.mem_append_left _ List.mem_cons_self) D m rfl) e
  refine ⟨S, ?_⟩
  rcases l.a with ⟨ks, us, vs, e, h, le, q⟩ | ⟨ks, us, vs, e, h, le, q⟩
  · exact .inl ⟨ks, us, vs, e, keep _ h, le, imAll_go g q⟩
  · exact .inr ⟨ks, us, vs, e, keep _ h, le, imAll_go g q⟩
theorem DS.put (l : DS F os k0 D as st γ H σ δ d) (hk : δ.length ≤ k0) {k x d' : U} {y v : V} (e : putU d k x = some d') (pk : im F.G (rts as) (ban F ((k0, [D]) :: os) as) k y H) (px : im F.G (rts as) (ban F ((k0, [D]) :: os) as) x v H) :
    ∃ o, DPut H D y v (upd H D o) ∧ DS F os k0 D as st γ (upd H D o) σ δ d' := by
  have upS : ∀ {o o' : HO}, H D = some o → (∀ xs, o ≠ .tup xs) → (∀ y u, o ≠ .frz y u) → SDo F ((k0, [D]) :: os) as st γ (upd H D o') σ δ ∧ ∀ {us : List U} {vs : List V}, imAll F.G (rts as) (ban F ((k0, [D]) :: os) as) us vs H → imAll F.G (rts as) (ban F ((k0, [D]) :: os) as) us vs (upd H D o') := fun {o o'} eD nt nf => by
    have c : Chg F ((k0, [D]) :: os) as H (upd H D o') k0 [D] [D] D := chg_same List.mem_cons_self List.mem_cons_self l.S eD nt nf
    have S := l.S.mut c (x := none) (fun _ z => nomatch z)
    have so := setOs_same l.S.ix (List.mem_cons_self (a := (k0, [D])) (l := os))
    rw [so] at S
    rw [List.set_eq_of_length_le hk] at S
    exact ⟨S, fun h => by have := c.imAll h; rw [so] at this; exact this⟩
  rcases l.a with ⟨ks, us, vs, rfl, eD, le, q⟩ | ⟨ks, us, vs, rfl, eD, le, q⟩
  · simp only [putU] at e
    split at e
    case isFalse => cases e
    rename_i hl
    cases ek : keyU k with
    | none => rw [ek] at e; cases e
    | some key =>
      rw [ek] at e
      simp only at e
      have ey := im_key ek pk
      subst ey
      have hz : (ks.zip vs).length < sizeLine := by rw [List.length_zip]; omega
      obtain ⟨ks', us', e5, rfl⟩ : ∃ ks' us', (match idxK key ks with | some j => if ks.Nodup then some (ks, us.set j x) else none | none => some (ks ++ [key], us ++ [x])) = some (ks', us') ∧ d' = .dct ks' us' := by
        cases ei : idxK key ks with
        | some j =>
          rw [ei] at e
          simp only at e ⊢
          split at e
          · rename_i nd; cases e; exact ⟨_, _, if_pos nd, rfl⟩
          · cases e
        | none => rw [ei] at e; cases e; exact ⟨_, _, rfl, rfl⟩
      obtain ⟨vs', p1, p2, p3⟩ := put_zip le q px e5
      obtain ⟨S, up⟩ := upS (o' := .dK (putK (ks.zip vs) key v)) eD (fun _ z => nomatch z) (fun _ _ z => nomatch z)
      exact ⟨_, DPut.k eD hz, S, .inl ⟨ks', us', vs', rfl, by rw [upd_same, p1], p2, up p3⟩⟩
  · simp only [putU] at e
    split at e
    case isFalse => cases e
    rename_i hl
    cases ek : tkeyU k with
    | none => rw [ek] at e; cases e
    | some key =>
      rw [ek] at e
      simp only at e
      obtain ⟨b, ey, hb⟩ := im_tkey ek pk
      subst ey
      have hz : (ks.zip vs).length < sizeLine := by rw [List.length_zip]; omega
      obtain ⟨ks', us', e5, rfl⟩ : ∃ ks' us', (match idxK key ks with | some j => if ks.Nodup then some (ks, us.set j x) else none | none => some (ks ++ [key], us ++ [x])) = some (ks', us') ∧ d' = .dcT ks' us' := by
        cases ei : idxK key ks with
        | some j =>
          rw [ei] at e
          simp only at e ⊢
          split at e
          · rename_i nd; cases e; exact ⟨_, _, if_pos nd, rfl⟩
          · cases e
        | none => rw [ei] at e; cases e; exact ⟨_, _, rfl, rfl⟩
      obtain ⟨vs', p1, p2, p3⟩ := put_zip le q px e5
      obtain ⟨S, up⟩ := upS (o' := .dT (putK (ks.zip vs) key v)) eD (fun _ z => nomatch z) (fun _ _ z => nomatch z)
      exact ⟨_, DPut.t eD hb hz, S, .inr ⟨ks', us', vs', rfl, by rw [upd_same, p1], p2, up p3⟩⟩
end
section
variable {F : Fr} {δ : Dl} {wi : TI} {g : TG} {tt : TT} {tk tv : TE} {vs : List Nat} {wl : M (List U)}
end
end UX

set_option Elab.async false
set_option linter.all false
set_option maxRecDepth 100000
set_option maxHeartbeats 4000000
set_option autoImplicit false
namespace UY
open PySem PySem.Spec PyProof.Rows L2
section
variable {X : Cx}
end
end UY
namespace UX
open PySem PySem.Spec PyProof.Rows L2 UY
open EL (Ex RB BOk Bn TK)
section
variable {F : Fr} {δ : Dl} {ta tb : TE} {wa wb : M U}
end
end UX

set_option Elab.async false
set_option linter.all false
set_option maxRecDepth 100000
set_option maxHeartbeats 4000000
set_option autoImplicit false
namespace UY
open PySem PySem.Spec PyProof.Rows L2
section
variable {X : Cx}
end
end UY

set_option Elab.async false
set_option linter.all false
set_option maxRecDepth 100000
set_option maxHeartbeats 4000000
set_option autoImplicit false
namespace UX
open PySem PySem.Spec PyProof.Rows L2 UY
open EL (Ex RB BOk Bn TK)
open RT
section
variable {F : Fr} {δ : Dl} {td ty te : TE} {wd wk w : M U}
end
section
variable {G : Cxt} {rs : List Addr} {B : Bn} {H : Hp}
end
section
variable {F : Fr} {S L : Type} {δ : Dl} {δn : S → Dl} {δl : L → Dl} {t2 : TS} {i : Nat} {tx : TE}
end
end UX

set_option Elab.async false
set_option linter.all false
set_option maxRecDepth 100000
set_option maxHeartbeats 4000000
set_option autoImplicit false
namespace UY
open PySem PySem.Spec PyProof.Rows L2
section
variable {X : Cx} {e : Expr} {t : TE}
end
end UY
namespace UX
open PySem PySem.Spec PyProof.Rows L2 UY
open EL (Ex RB BOk Bn TK)
section
variable {F : Fr} {os : Os} {as as' : SA} {st st' : Sto} {γ : List (U × V)} {H H' : Hp} {σ : L2.St} {δ : Dl} {d : Addr} {u0 : HO} {od : Obj}
end
section
variable {F : Fr} {δ : Dl} {g : TG} {tt : TT} {td te : TE} {vs : List Nat}
end
end UX

set_option Elab.async false
set_option linter.all false
set_option maxRecDepth 100000
set_option maxHeartbeats 4000000
set_option autoImplicit false
namespace UY
open PySem PySem.Spec PyProof.Rows L2
def ItzM (K : PySem.W.Frag) (a b : Addr) : It :=
  ⟨fun i H => ∃ (xs ys : List V) (x y : V), SqL K H a xs ∧ SqT K H b ys ∧ xs[i]? = some x ∧ ys[i]? = some y,
   fun i H v H' => ∃ T x y, v = .ref T ∧ H T = none ∧ H' = upd H T (.tup [x, y]) ∧ (∀ xs, SqL K H a xs → xs[i]? = some x) ∧ ∀ ys, SqT K H b ys → ys[i]? = some y,
   fun i H => ∃ xs ys : List V, SqL K H a xs ∧ SqT K H b ys ∧ i = min xs.length ys.length⟩
theorem sep_of {z TI TO i1 i2 a b : Addr} (D : ZipApart z TI TO i1 i2 a b) : ZipSep2 z TI TO i1 i2 [i1, a] [i2, b] where
  TIz := D.TIz
  TOz := D.TOz
  TITO := D.TITO
  TIi1 := D.TIi1
  mem1 := by simp
  zf1 := by simp [Ne.symm D.i1z, Ne.symm D.l1z]
  Tf1 := by simp [D.TOi1, Ne.symm D.l1TO]
  TIi2 := D.TIi2
  mem2 := by simp
  zf2 := by simp [Ne.symm D.i2z, Ne.symm D.l2z]
  Tf2 := by simp [D.TOi2, Ne.symm D.l2TO]
  sep1_2 := by simp [D.i12, Ne.symm D.l2i1]
  sep2_1 := by simp [Ne.symm D.i12, Ne.symm D.l1i2]
theorem turn_zipM {P : Program} {w : World} {K : PySem.W.Frag} {elts : List Expr} {kk : Nat} {tpos : Pos} {a b z TI TO i1 i2 : Addr} (D : ZipApart z TI TO i1 i2 a b) :
    Turn P w K (.Tuple elts kk tpos) (ItzM K a b) [z, TI, TO, i1, i2] z (fun i h => IsZip h z TI TO .none ∧ IsTupOf2 h TI (.ref i1) (.ref i2) ∧ (∃ x y, IsTupOf2 h TO x y) ∧ h.IsListIter i1 a i ∧ h.IsTupleIter i2 b i) where
  mem := List.mem_cons_self
  obj := fun i h st c hc => by
    obtain ⟨hz, hTI, ⟨x, y, hTO⟩, ⟨o1, e1, _, d1⟩, ⟨o2, e2, _, d2⟩⟩ := st
    simp only [List.mem_cons, List.not_mem_nil, or_false] at hc
    rcases hc with rfl | rfl | rfl | rfl | rfl
    · exact ⟨_, hz, fun v q => nomatch q⟩
    · exact ⟨_, hTI, fun v q => nomatch q⟩
    · exact ⟨_, hTO, fun v q => nomatch q⟩
    · exact ⟨o1, e1, fun v q => by rw [d1] at q; cases q⟩
    · exact ⟨o2, e2, fun v q => by rw [d2] at q; cases q⟩
  keep := fun i h h' ⟨hz, hTI, ⟨x, y, hTO⟩, h1, h2⟩ k => ⟨k z (by simp) _ hz, k TI (by simp) _ hTI, ⟨x, y, k TO (by simp) _ hTO⟩, h1.at fun o q => k i1 (by simp) o q, h2.at fun o q => k i2 (by simp) o q⟩
  item := by
    intro X hP hw hK hc i pins s σ H E I hf st hg
    subst hP hw hK
    obtain ⟨hz, hTI, ⟨x0, y0, hTO⟩, h1, h2⟩ := st
    obtain ⟨xs, ys, x, y, hqx, hqy, hx, hy⟩ := hg
    obtain ⟨its, rv, pl, _⟩ := I.list hqx
    obtain ⟨its2, rv2, pt, _⟩ := I.tuple hqy
    obtain ⟨u, hu, ru⟩ := rv.get hx
    obtain ⟨u2, hu2, ru2⟩ := rv2.get hy
    have hzl : z < s.heap.objs.size := Heap.lt_size hz
    have n1 : i < its.toArray.size := by have := (List.getElem?_eq_some_iff.mp hu).1; simpa using this
    have n2 : i < its2.toArray.size := by have := (List.getElem?_eq_some_iff.mp hu2).1; simpa using this
    refine wpAny_pyNext_zipD2_item (sep_of D) (Draws.list (A := X.A.in1) (I.ok.hd hc) i1 a D.l1i1 its.toArray) (Draws.tuple (A := X.A.in1) (I.ok.hd hc) i2 b D.l2i2 its2.toArray) hz hTI hTO ⟨h1, pl.isList⟩ ⟨h2, pt⟩ n1 n2 fun x1 x2 h' tk e1 e2 z' TO' st1 st2 hT hsz hk => ?_
    have e1 : x1 = u := by
      have : its[i]? = some x1 := by simpa using e1
      rw [hu] at this; exact (Option.some.inj this).symm
    have e2 : x2 = u2 := by
      have : its2[i]? = some x2 := by simpa using e2
      rw [hu2] at this; exact (Option.some.inj this).symm
    subst e1 e2
    refine ⟨_, rfl, wpAny_letOwnedTupleGo_zip (s := { s with heap := h', toks := tk }) z' fun h'' z'' sb => ?_⟩
    have at2 : h''.get? s.heap.objs.size = some { cls := .type "tuple", data := .seq #[x1, x2] } := (sb.2 _ (Nat.ne_of_gt hzl)).trans hT
    have fresh := I.hok.fresh (Nat.le_refl s.heap.objs.size)
    have new : ObjOk X.prog X.w (upd H s.heap.objs.size (.tup [x, y])) h'' s.heap.objs.size (.tup [x, y]) := ⟨(by decide : 2 ≤ sizeLine), [x1, x2], .cons ru (.cons ru2 .nil), _, at2, rfl, _, rfl⟩
    have out : ∀ c o, c ∉ [z, TI, TO, i1, i2] → s.heap.get? c = some o → h''.get? c = some o := fun c o hb q => by
      simp only [List.mem_cons, List.not_mem_nil, or_false, not_or] at hb
      exact (sb.2 c hb.1).trans (hk c o hb.1 hb.2.2.1 hb.2.2.2.1 hb.2.2.2.2 q)
    have I1 : Inv X pins σ (upd H s.heap.objs.size (.tup [x, y])) { s with heap := h'', toks := tk } := I.turnedNew (t' := tk) (ch := [z, TI, TO, i1, i2]) out hf (Nat.le_refl _) new
    refine ⟨.ref s.heap.objs.size, _, I1, rfl, ⟨_, x, y, rfl, fresh, rfl, fun l hl => by rw [I.list_inj hl hqx]; exact hx, fun l hl => by rw [I.tuple_inj hl hqy]; exact hy⟩, ⟨z'', (sb.2 _ D.TIz).trans (hk _ _ D.TIz D.TITO D.TIi1 D.TIi2 hTI), ⟨x1, x2, (sb.2 _ D.TOz).trans TO'⟩, st1.1.at fun o q => (sb.2 _ D.i1z).trans q, st2.1.at fun o q => (sb.2 _ D.i2z).trans q⟩, fun c hcm => ?_⟩
    have hlt : c < s.heap.objs.size := by
      simp only [List.mem_cons, List.not_mem_nil, or_false] at hcm
      rcases hcm with rfl | rfl | rfl | rfl | rfl
      · exact hzl
      · exact Heap.lt_size hTI
      · exact Heap.lt_size hTO
      · obtain ⟨_, e1, _⟩ := h1; exact Heap.lt_size e1
      · obtain ⟨_, e2, _⟩ := h2; exact Heap.lt_size e2
    rw [upd_ne (Nat.ne_of_lt hlt)]
    exact (hf c hcm).1
  done := by
    intro X hP hw hK hc i pins s σ H E I hf st hg
    subst hP hw hK
    obtain ⟨hz, hTI, ⟨x0, y0, hTO⟩, h1, h2⟩ := st
    obtain ⟨xs, ys, hqx, hqy, hend⟩ := hg
    obtain ⟨its, rv, pl, _⟩ := I.list hqx
    obtain ⟨its2, rv2, pt, _⟩ := I.tuple hqy
    have l1 := rv.length
    have l2 := rv2.length
    refine wpAny_pyNext_zipD2_end (sep_of D) (Draws.list (A := X.A.in1) (I.ok.hd hc) i1 a D.l1i1 its.toArray) (Draws.tuple (A := X.A.in1) (I.ok.hd hc) i2 b D.l2i2 its2.toArray) hz hTI hTO ⟨h1, pl.isList⟩ ⟨h2, pt⟩ (by rw [List.size_toArray]; omega) (by rw [List.size_toArray]; omega) (by rw [List.size_toArray, List.size_toArray]; omega) fun h' tk hk => ⟨rfl, I.turnedL (t' := tk) (ch := [z, TI, TO, i1, i2]) (fun c o hb q => ?_) hf⟩
    simp only [List.mem_cons, List.not_mem_nil, or_false, not_or] at hb
    exact hk c o hb.1 hb.2.2.1 hb.2.2.2.1 hb.2.2.2.2 q
  self := fun A i s Q E st h => wpAny_pyIter_zip st.1 h
def iZipM (K : PySem.W.Frag) (ta : TA) : TI := fun σ H R => ta σ H fun vs H1 => ∃ a b xs ys, vs = [.ref a, .ref b] ∧ SqL K H1 a xs ∧ SqT K H1 b ys ∧ R (ItzM K a b) H1
theorem pi_zipM {X : Cx} {e e2 : Expr} {ta : TA} {p pos tpos : Pos} {elts : List Expr} {kk : Nat} (K : PySem.W.Frag) (hg : Gl X "zip") (hm : X.mg "zip" = none) (ha : PA X [e, e2] ta)
    (hs : starEach [e, e2] X.env = (false, eval e X.env) :: starEach [e2] X.env := by rfl) (hpl : (backTo pos (starEach [e2] X.env)).any (·.1) = false := by rfl) (hK : X.K = K := by rfl) :
    PI X (.Tuple elts kk tpos) (.Call (.Name "zip" p) [e, e2] [] pos) (iZipM K ta) := by
  subst hK
  refine ⟨fun pins s σ H R I h => ?_⟩
  refine Call_ (ld_blt I hg hm PyProof.Rows.boot_zip (PyProof.Rows.callWith_type1 (thn (ha.run pos pins s σ H _ I h) fun us s1 ⟨vs, H1, I1, r1, q1⟩ => ?_) hs hpl))
  obtain ⟨a, b, xs, ys, rfl, hqx, hqy, q⟩ := q1
  obtain ⟨u1, u2, rfl, e1, e2⟩ : ∃ u1 u2, us = [u1, u2] ∧ RelV (V.ref a) u1 ∧ RelV (V.ref b) u2 := by
    cases r1 with
    | cons r rr => cases rr with
      | cons r' rr => cases rr; exact ⟨_, _, rfl, r, r'⟩
  cases e1
  cases e2
  obtain ⟨its, rv, pl, _⟩ := I1.list hqx
  obtain ⟨its2, rv2, pt, _⟩ := I1.tuple hqy
  obtain ⟨o2, ho2, _⟩ := id pt
  refine zip_begins2 (begins_list a its.toArray) (begins_tuple b its2.toArray) pl.isList pt fun h' hz hTI hTO g1 g2 hsz hk => wpAny_pyIter_zip hz ?_
  refine ⟨s1.heap.objs.size + 4, [s1.heap.objs.size + 4, s1.heap.objs.size + 2, s1.heap.objs.size + 3, s1.heap.objs.size, s1.heap.objs.size + 1], _, _, H1, rfl, I1.kept (t' := s1.toks) hk, turn_zipM (PySem.W.ktu_apart s1.heap.objs.size a b pl.lt (Heap.lt_size ho2)), ⟨hz, hTI, ⟨_, _, hTO⟩, ⟨_, g1, rfl, rfl⟩, ⟨_, g2, rfl, rfl⟩⟩, fun c hcm => ?_, q⟩
  have hle : s1.heap.objs.size ≤ c := by
    simp only [List.mem_cons, List.not_mem_nil, or_false] at hcm
    rcases hcm with rfl | rfl | rfl | rfl | rfl
    · exact Nat.le_add_right _ _
    · exact Nat.le_add_right _ _
    · exact Nat.le_add_right _ _
    · exact Nat.le_refl _
    · exact Nat.le_add_right _ _
  exact I1.fpOk hle (I1.hok.fresh hle)
end UY

set_option Elab.async false
set_option linter.all false
set_option maxRecDepth 100000
set_option maxHeartbeats 4000000
set_option autoImplicit false
namespace UX
open PySem PySem.Spec PyProof.Rows L2 UY
open EL (Ex RB BOk Bn TK)
def zipMU : U → U → Option (List U)
  | .lst a, .tup b => some (zipL a b)
  | _, _ => none
def zipMW (w w' : M U) : M (List U) := .bind w fun u => .bind w' fun u' => .o (zipMU u u')
section
variable {F : Fr} {δ : Dl} {ta tb : TE} {wa wb : M U}
theorem src_zipM (ha : EvW F ta δ wa) (hb : EvW F tb δ wb) : Src F (iZipM F.G.K (tCons ta (tCons tb tNil))) δ (zipMW wa wb) := fun os as st γ σ H us st' S q Q k => by
  obtain ⟨u, st1, qu, q1⟩ := M.bind_inv q
  obtain ⟨u', st2, qu', q2⟩ := M.bind_inv q1
  obtain ⟨e, rfl⟩ := M.o_inv q2
  refine ha os as st γ σ H _ _ S qu _ fun v H1 as1 g1 S1 p1 => ?_
  have S1' : SDo F os as1 st1 ([(u, v)] ++ γ) H1 σ δ := S1.ghost fun z m => by rw [List.mem_singleton] at m; rw [m]; exact p1
  refine hb os as1 st1 _ σ H1 _ _ S1' qu' _ fun v' H2 as2 g2 S2 p2 => ?_
  have S3 : SDo F os as2 st' ([(u', v')] ++ ([(u, v)] ++ γ)) H2 σ δ := S2.ghost fun z m => by rw [List.mem_singleton] at m; rw [m]; exact p2
  have pu : im F.G (rts as2) (ban F os as2) u v H2 := S2.gh (u, v) List.mem_cons_self
  have G3 : SDo F os as2 st' ([(u', v'), (u, v)] ++ γ) H2 σ δ := S3
  clear S1 S1' S2 S3 q q1 q2
  cases u <;> cases u' <;> simp [zipMU] at e
  subst e
  obtain ⟨a, vs, rfl, nb, hs, hv⟩ := id pu
  obtain ⟨b, ws, rfl, hs', hv'⟩ := id p2
  refine ⟨a, b, vs, ws, rfl, EL.sqL_of hs, EL.sqT_of hs', k _ H2 as2 _ (g1.trans g2) G3 ⟨fun i os as st γ σ δ H hi S2 => ?_, fun os as st γ σ δ H S2 => ?_, fun i os as st γ σ δ x H H' z e S2 y => ?_⟩⟩ <;> obtain ⟨a2, vs2, ev2, n2, ht, hv2⟩ := S2.gh _ (List.mem_cons_of_mem _ List.mem_cons_self) <;> obtain ⟨b2, ws2, ev3, ht', hv3⟩ := S2.gh _ List.mem_cons_self <;> cases ev2 <;> cases ev3
  · rw [zipL_len] at hi
    have h1 : i < vs2.length := by rw [imAll_len hv2]; omega
    have h2 : i < ws2.length := by rw [imAll_len hv3]; omega
    exact ⟨vs2, ws2, vs2[i], ws2[i], EL.sqL_of ht, EL.sqT_of ht', List.getElem?_eq_getElem h1, List.getElem?_eq_getElem h2⟩
  · refine ⟨vs2, ws2, EL.sqL_of ht, EL.sqT_of ht', ?_⟩
    rw [zipL_len, imAll_len hv2, imAll_len hv3]
  · obtain ⟨T, x1, x2, rfl, hT, rfl, f1, f2⟩ := y
    obtain ⟨c, d, e1, e2, rfl⟩ := zipL_get e
    obtain ⟨y1, e3, p3⟩ := imAll_get hv2 e1
    obtain ⟨y2, e4, p4⟩ := imAll_get hv3 e2
    rw [f1 _ (EL.sqL_of ht)] at e3
    rw [f2 _ (EL.sqT_of ht')] at e4
    cases e3; cases e4
    exact ⟨Ex.new hT, zip_pair hT p3 p4⟩
end
end UX

set_option Elab.async false
set_option linter.all false
set_option maxRecDepth 100000
set_option maxHeartbeats 4000000
set_option autoImplicit false
namespace UX
open PySem PySem.Spec PyProof.Rows L2
open EL (Ex RB BOk Bn TK FnG okG rm66)
section
variable {prog : Program} {w : World} {A : Around} {E : Value → Shared → Prop} {s : Shared} {K : PySem.W.Frag} {x C L f : Addr} {h₀ : Heap} {m : Str → Option Value} {ox : Obj} {od : Option Obj} {b tb : Value}
end
section
variable {X : Cx} {CX : CXT} {k : Nat} {f C : Addr} {fd : FuncData} {ps : List Str} {sp : Sp} {E : XK}
end
section
variable {F : Fr} {δ : Dl} {ta tb : TE} {wa wb : M U} {E : XK} {f : List U → M U} {c : Str} {g : Bool → Bool}
end
section
variable {X : Cx} {CX : CXT} {k : Nat} {f C : Addr} {fd : FuncData} {ps : List Str} {sp : Sp} {E : XK}
end
section
variable {F : Fr} {δ : Dl} {ta : TE} {wa : M U} {E : XK} {f : List U → M U} {c : Str}
end
end UX

set_option Elab.async false
set_option linter.all false
set_option maxRecDepth 100000
set_option maxHeartbeats 4000000
set_option autoImplicit false
namespace UX
open PySem PySem.Spec PyProof.Rows L2
open EL (Ex RB BOk Bn TK)
def okT : List String := ["NoneType", "bool", "int", "str", "tuple", "list", "dict"]
inductive FaX where
  | spec (c m : Str) (id : String)
  | obj (c : Str)
  | ins (c : Str)
def FaX.ok (K : PySem.W.Frag) : FaX → Bool
  | .spec c m id => He.eqO (PySem.W.findIn K (.ref (He.ga K c)) m) (some (some (.builtin id)))
  | .obj c => decide (PySem.W.mroIn K (He.ga K c) (.type "object") = some true)
  | .ins c => He.eqO (PySem.W.findIn K (.ref (He.ga K c)) "__class__") (some (some (.builtin "object.__class__"))) && (He.eqO (PySem.W.specialIn K (.builtin "object.__class__") "__get__") (some (some (.builtin "getset_descriptor.__get__"))) && (decide (PySem.W.takesIn K (.builtin "object.__class__") = some true) && (decide (PySem.W.mroIn K (He.ga K c) (.type "object") = some true) && ((PySem.W.typeIn K (.ref (He.ga K c)) == some (.type "type")) && okT.all fun T => PySem.W.mroIn K (He.ga K c) (.type T) == some false))))
def obsV (fa : List He.Fa) (fn : List He.DefD) (ts : List He.Tab) (vs : List Vls) (xs : List FaX) (K : PySem.W.Frag) : AlU := (He.obsT fa fn ts K, (vs.all fun q => He.valsB K (q.1 K) q.2) && xs.all fun x => x.ok K)
def SaysV (fa : List He.Fa) (fn : List He.DefD) (ts : List He.Tab) (vs : List Vls) (xs : List FaX) (w : World) (K : PySem.W.Frag) : Prop := obsV fa fn ts vs xs K = valU fn ts w
section
variable {fa : List He.Fa} {fn : List He.DefD} {ts : List He.Tab} {vs : List Vls} {xs : List FaX} {w : World} {K : PySem.W.Frag}
theorem SaysV.u (c : SaysV fa fn ts vs xs w K) : SaysU fa fn ts vs w K := by
  have e1 : He.obsT fa fn ts K = He.valT fn ts w := congrArg (fun z : AlU => z.1) c
  have e2 : ((vs.all fun q => He.valsB K (q.1 K) q.2) && xs.all fun x => x.ok K) = true := congrArg (fun z : AlU => z.2) c
  show ((_, _) : AlU) = (_, _)
  rw [e1, (Bool.and_eq_true_iff.mp e2).1]
theorem SaysV.x (c : SaysV fa fn ts vs xs w K) (i : Nat) {x : FaX} (h : xs[i]? = some x) : x.ok K = true := by
  have e2 : ((vs.all fun q => He.valsB K (q.1 K) q.2) && xs.all fun x => x.ok K) = true := congrArg (fun z : AlU => z.2) c
  exact List.all_eq_true.mp (Bool.and_eq_true_iff.mp e2).2 x (List.mem_of_getElem? h)
end
end UX

set_option Elab.async false
set_option linter.all false
set_option maxRecDepth 100000
set_option maxHeartbeats 4000000
set_option autoImplicit false
namespace UX
open PySem PySem.Spec PyProof.Rows L2
open EL (Ex RB BOk Bn TK)
section
variable {F : Fr} {δ : Dl} {ta tk : TA} {wa wk : M (List U)} {E : XK} {f : List U → M U} {n m : Nat}
end
structure InsF (K : PySem.W.Frag) (C : Addr) : Prop where
  cl : Cls K C
  ha : PySem.W.findIn K (.ref C) "__class__" = some (some (.builtin "object.__class__"))
  hn : PySem.W.specialIn K (.builtin "object.__class__") "__get__" = some (some (.builtin "getset_descriptor.__get__"))
  ht : PySem.W.takesIn K (.builtin "object.__class__") = some true
  hm : PySem.W.mroIn K C (.type "object") = some true
  ty : (PySem.W.typeIn K (.ref C) == some (.type "type")) = true
  nt : ∀ t ∈ okT, PySem.W.mroIn K C (.type t) = some false
section
variable {F : Fr} {δ : Dl} {ta : TE} {wa : M U} {c : Str}
end
end UX

set_option Elab.async false
set_option linter.all false
set_option maxRecDepth 100000
set_option maxHeartbeats 4000000
set_option autoImplicit false
namespace UX
open PySem PySem.Spec PyProof.Rows L2
open EL (Ex RB BOk Bn TK)
section
variable {F : Fr} {δ : Dl} {ta tb : TE} {wa wb : M U}
end
end UX

set_option Elab.async false
set_option linter.all false
set_option maxRecDepth 100000
set_option maxHeartbeats 4000000
set_option autoImplicit false
namespace UX
open PySem PySem.Spec PyProof.Rows L2
open EL (Ex RB BOk Bn TK)
structure FrA (G : Cxt) (B : Bn) (H0 : Hp) (A : List Addr) (as : SA) (st : Sto) (H : Hp) (u : U) (v : V) : Prop where
  own : ownD G (rts as) (fun a => B a ∨ a ∈ A ∨ a ∈ fl as) (.lst .leaf) u v H A
  new : ∀ a ∈ A, H0 a = none ∧ ¬ B a ∧ a ∉ fl as
  sto : StOk G (fun a => B a ∨ a ∈ A ∨ a ∈ fl as) (rts as) as st H
def frR (G : Cxt) (B : Bn) (H0 : Hp) : SA → Sto → Hp → U → V → Prop := fun as st H u v => ∃ A, FrA G B H0 A as st H u v
def spMN (G : Cxt) (f : List U → M U) : Sp := fun vs H Q _ => ∃ (B : Bn) (as : SA) (st : Sto) (us : List U) (u : U) (st' : Sto),
  BOk (ban ⟨G, B, H, as, noR⟩ [] as) H ∧ (fl as).Nodup ∧ (∀ a ∈ fl as, ¬ B a) ∧ StOk G (ban ⟨G, B, H, as, noR⟩ [] as) (rts as) as st H ∧ imAll G (rts as) (ban ⟨G, B, H, as, noR⟩ [] as) us vs H ∧ f us st = some (.ok u, st') ∧
  ∀ as' v H', Rt ⟨G, B, H, as, frR G B H⟩ as' st' H' u v → Q v H'
section
variable {F : Fr} {δ : Dl}
end
section
variable {P : Program} {w : World} {K : PySem.W.Frag} {mg : Str → Option Value} {bs : Heap} {CX : CXT} {x qu : Str} {pa : Arguments} {bo : List Stmt} {sc : Scope} {dv : List V} {kw : List (Str × V)} {f : Addr} {fd : FuncData}
end
section
variable {F : Fr} {δ : Dl} {ta : TA} {wa : M (List U)} {E : XK} {f : List U → M U}
theorem SDo.fresh {os : Os} {as as' : SA} {st st' : Sto} {γ : List (U × V)} {H H' : Hp} {σ : L2.St} {k : Nat} {A : List Addr} {u : U} {v : V} (S : SDo F os as st γ H σ δ) (g : Go as as' H H') (S2 : SDo F os as' st' γ H' σ δ)
    (r : FrA F.G (fun a => F.B a ∨ a ∈ flo os) H A as' st' H' u v) (hk : k ∉ os.map (·.1)) : SDo F ((k, A) :: os) as' st' γ H' σ δ := by
  cases u with
  | lst us => ?_
  | _ => exact r.own.elim
  obtain ⟨p, vs, ev, rfl, hp', _⟩ := own_lst.mp r.own
  obtain ⟨hp, hnB, hnf⟩ := r.new p (List.mem_singleton.mpr rfl)
  have hA : ∀ a ∈ [p], H a = none := fun a m => by rw [List.mem_singleton] at m; rw [m]; exact hp
  have sb := sub_cons (F := F) (os := os) (as := as) (k := k) hA
  have up : ∀ u v, im F.G (rts as) (ban F os as) u v H → im F.G (rts as') (ban F ((k, [p]) :: os) as') u v H' := fun u v h => im_go g (im_sub sb _ _ h)
  have tp : ∀ a xs, H a = some (.tup xs) → H' a = some (.tup xs) := fun a xs h => g.rb.tup _ _ h
  refine ⟨fun q m => up _ _ (S.gh q m), S2.rel, fun a b => ?_, ?_, List.nodup_cons.mpr ⟨hk, S2.ix⟩, fun a m => ?_, fun a z => ?_, StOk.mono (fun _ _ h => im_sub (fun a _ b => ?_) _ _ h) (fun _ _ h => h) (fun _ _ => rfl) r.sto, S2.len, fun i x e1 => ?_⟩
  · rcases ban_cons.mp b with z | z
    · rw [List.mem_singleton] at z; rw [z, hp']; exact fun z => nomatch z
    · exact S2.ok a z
  · rw [flo_cons]
    show (p :: (flo os ++ fl as')).Nodup
    refine List.nodup_cons.mpr ⟨fun m => ?_, S2.nd⟩
    rcases List.mem_append.mp m with m | m
    · exact hnB (.inr m)
    · exact hnf m
  · rw [flo_cons] at m
    rcases List.mem_append.mp m with m | m
    · rw [List.mem_singleton] at m; rw [m]; exact S.rel.fresh hp
    · exact S2.new a m
  · rw [flo_cons] at z
    rcases z with z | z
    · rcases List.mem_append.mp z with z | z
      · rw [List.mem_singleton] at z; rw [z]; exact fun b => hnB (.inl b)
      · exact S2.nb a (.inl z)
    · exact S2.nb a (.inr z)
  · rcases ban_cons.mp b with z | z
    · exact .inr (.inl z)
    · rcases z with z | z | z
      · exact .inl (.inl z)
      · exact .inl (.inr z)
      · exact .inr (.inr z)
  · obtain ⟨v, h1, h2⟩ := S.at_ i x e1
    refine ⟨v, h1, ?_⟩
    match x, h2 with
    | .im u, h2 => exact up _ _ h2
    | .raw _, h2 => exact h2
    | .own sh u, ⟨A, m, h2⟩ =>
      refine ⟨A, List.mem_cons_of_mem _ m, own_mono up tp _ _ _ _ (fun a z => ?_) h2⟩
      have hal := S.ok a (.inr (.inl (mem_flo m z)))
      cases q : H a with
      | none => exact absurd q hal
      | some o => exact g.rb.keep a o (fun b => (List.nodup_append.mp S.nd).2.2 a (mem_flo m z) a b rfl) q
theorem en_call (h : EvAW F ta δ wa) : EvN F (.lst .leaf) (tCall (spMN F.G f) [] E ta) δ (callM f wa) := fun os as st γ σ H c st' S q QQ k => by
  obtain ⟨us, st1, qa, q⟩ := M.bind_inv q
  refine h os as st γ σ H us st1 S qa _ fun vs H1 as1 g1 S1 pv => ?_
  show spMN F.G f (vs ++ []) H1 QQ E
  rw [List.append_nil]
  obtain ⟨ok, nb, e⟩ := S1.enter
  refine ⟨fun a => F.B a ∨ a ∈ flo os, as1, st1, us, c, st', ok, (List.nodup_append.mp S1.nd).2.1, nb, StOk.mono (fun _ _ h => im_sub (fun a _ b => (e a).mp b) _ _ h) (fun _ _ h => h) (fun _ _ => rfl) S1.sto, imAll_sub (fun a _ b => (e a).mp b) _ _ pv, q, fun as' v H' r => ?_⟩
  obtain ⟨S2, p⟩ := S1.leave (st' := st') (u := c) (v := v) ⟨r.rel, r.ok, r.nd, r.nb, r.sto, r.im, trivial⟩
  obtain ⟨A, fr⟩ := r.r
  refine k v H' as' A (g1.trans r.rel) (fun k hk => S1.fresh r.rel S2 fr hk) (own_mono (fun u v h => im_sub (fun a _ b => ?_) _ _ h) (fun _ _ h => h) _ _ _ _ (fun _ _ => rfl) fr.own) fun a m => g1.fresh (fr.new a m).1
  rcases ban_cons.mp b with z | z
  · exact .inr (.inl z)
  · rcases z with z | z | z
    · exact .inl (.inl z)
    · exact .inl (.inr z)
    · exact .inr (.inr z)
end
end UX

set_option Elab.async false
set_option linter.all false
set_option maxRecDepth 100000
set_option maxHeartbeats 4000000
set_option autoImplicit false
namespace UX
open PySem PySem.Spec PyProof.Rows L2
open EL (Ex RB BOk Bn TK)
section
variable {X : Cx} {CX : CXT} {k : Nat} {f C : Addr} {fd : FuncData} {ps : List Str} {sp : Sp} {E : XK}
end
section
variable {F : Fr} {δ : Dl} {ta tb : TE} {wa wb : M U} {E : XK} {f : List U → M U} {c : Str}
end
end UX

set_option Elab.async false
set_option linter.all false
set_option maxRecDepth 100000
set_option maxHeartbeats 4000000
set_option autoImplicit false
namespace GQ
open PySem PySem.SeqAt
open AutoSeq1 (wpAny_loadPart')
open MeetsSeq MeetsSeq2 MeetsSeq3 SeqRoads2
section
variable {prog : Program} {w : World} {A : Around} {R : Result → Shared → Prop}
end
section
variable {prog : Program} {w : World} {A : Around} {E : Value → Shared → Prop} {s : Shared}
end
end GQ

set_option Elab.async false
set_option linter.all false
set_option maxRecDepth 100000
set_option maxHeartbeats 4000000
set_option autoImplicit false
namespace UX
open PySem PySem.Spec PyProof.Rows L2
open EL (Ex RB BOk Bn TK)
section
variable {G : Cxt} {rs : List Addr} {B : Bn} {H : Hp}
end
mutual
def ptU : U → Bool
  | .int _ => true
  | .str _ => true
  | .tup us => ptA us
  | _ => false
def ptA : List U → Bool
  | [] => true
  | u :: us => ptU u && ptA us
end
section
variable {X : Cx} {CX : CXT} {k : Nat} {f C : Addr} {fd : FuncData} {ps : List Str} {sp : Sp} {E : XK}
end
section
variable {F : Fr} {δ : Dl} {ta tb : TE} {wa wb : M U} {E : XK} {f : List U → M U} {c : Str} {g : Bool → Bool}
end
end UX

set_option Elab.async false
set_option linter.all false
set_option maxRecDepth 100000
set_option maxHeartbeats 4000000
set_option autoImplicit false
namespace UX
open PySem PySem.Spec PyProof.Rows L2
open EL (Ex RB BOk Bn TK rAddU rMulU)
def mulLU : U → U → Option U
  | .lst a, .int k => if 0 ≤ k ∧ k ≤ 1000000 ∧ a.length * k.toNat ≤ sizeLine then some (.lst (List.replicate k.toNat a).flatten) else none
  | _, _ => none
section
variable {F : Fr} {δ : Dl} {ta tb : TE} {wa wb : M U}
theorem own_new {os : Os} {as : SA} {st : Sto} {γ : List (U × V)} {H : Hp} {σ : L2.St} {us : List U} {vs : List V} {p : Addr} (S1 : SDo F os as st γ H σ δ) (pv : imAll F.G (rts as) (ban F os as) us vs H) (hp : H p = none) :
    ownD F.G (rts as) (ban F ((0, [p]) :: os) as) (.lst .leaf) (.lst us) (.ref p) (upd H p (.lst vs)) [p] :=
  own_lst.mpr ⟨p, vs, rfl, rfl, upd_same, imAll_st (RB.of_ex (Ex.new hp)) _ _ (imAll_sub (sub_cons fun a m => by rw [List.mem_singleton] at m; rw [m]; exact hp) _ _ pv)⟩
theorem en_mulL (ha : EvR F ta δ wa) (hb : EvR F tb δ wb) : EvN F (.lst .leaf) (tOp (rMulU F.G.K) ta tb) δ (op2 mulLU wa wb) := fun os as st γ σ H c st' S q QQ k => by
  obtain ⟨a, st1, qa, q⟩ := M.bind_inv q
  obtain ⟨b, st2, qb, q⟩ := M.bind_inv q
  obtain ⟨e, rfl⟩ := M.o_inv q
  refine ha os as st γ σ H a st1 S qa _ fun x H1 as1 g1 S1 px => hb os as1 st1 γ σ H1 b _ S1 qb _ fun y H2 as2 g2 S2 py => ?_
  have px := rd_go g2 px
  cases a with
  | lst us => ?_
  | _ => cases e
  cases b with
  | int i => ?_
  | _ => cases e
  simp only [mulLU] at e
  split at e
  case isFalse => cases e
  rename_i hl
  cases e
  obtain ⟨h0, h1, hl⟩ := hl
  obtain ⟨a, xs, rfl, na, ta, qa⟩ := px
  exact .inr (.inr ⟨a, i, xs, rfl, py, ta, by omega, by omega, by rw [imAll_len qa]; exact hl, fun p hp => k _ _ as2 [p] ((g1.trans g2).trans (Go.of_ex (Ex.new hp))) (fun k hk => S2.grow hk hp (Ex.new hp) (by rw [upd_same]; exact fun z => nomatch z)) (own_new S2 (imAll_rep qa _) hp) fun a m => by rw [List.mem_singleton] at m; rw [m]; exact (g1.trans g2).fresh hp⟩)
end
end UX

set_option Elab.async false
set_option linter.all false
set_option maxRecDepth 100000
set_option maxHeartbeats 4000000
set_option autoImplicit false
namespace GQ
open PySem PySem.SeqAt PyProof.Rows
open AutoSeq1 (wpAny_loadPart')
open MeetsSeq MeetsSeq2 MeetsSeq3 SeqRoads2
section
variable {prog : Program} {w : World} {A : Around} {s : Shared} {x C dx : Addr} {K : PySem.W.Frag} {od : Option Obj} {E : Value → Shared → Prop} {Q : PySem.Fin → Shared → Prop}
end
section
variable {prog : Program} {w : World} {A : Around} {s : Shared} {x C dx f L : Addr} {K : PySem.W.Frag} {od : Option Obj} {E : Value → Shared → Prop} {Q : Value → Shared → Prop} {h₀ : Heap} {m : Str → Option Value}
end
end GQ

set_option Elab.async false
set_option linter.all false
set_option maxRecDepth 100000
set_option maxHeartbeats 4000000
set_option autoImplicit false
namespace UX
open PySem PySem.Spec PyProof.Rows L2
open EL (Ex RB BOk Bn TK)
inductive TyE (H : Hp) : V → String → Prop where
  | non : TyE H .non "NoneType"
  | bl (b : Bool) : TyE H (.bl b) "bool"
  | int (i : Int) : TyE H (.int i) "int"
  | str (x : Str) : TyE H (.str x) "str"
  | tup {a : Addr} {xs : List V} (e : H a = some (.tup xs)) : TyE H (.ref a) "tuple"
  | lst {a : Addr} {xs : List V} (e : H a = some (.lst xs)) : TyE H (.ref a) "list"
section
variable {X : Cx} {CX : CXT} {k : Nat} {f C : Addr} {fd : FuncData} {ps : List Str} {sp : Sp} {E : XK}
end
end UX

set_option Elab.async false
set_option linter.all false
set_option maxRecDepth 100000
set_option maxHeartbeats 4000000
set_option autoImplicit false
namespace GQ
open PySem PySem.SeqAt PyProof.Rows
open AutoSeq1 (wpAny_loadPart')
open MeetsSeq MeetsSeq2 MeetsSeq3 SeqRoads2
section
variable {prog : Program} {w : World} {A : Around} {R : Result → Shared → Prop}
end
section
variable {prog : Program} {w : World} {A : Around} {E : Value → Shared → Prop} {s : Shared}
end
end GQ

set_option Elab.async false
set_option linter.all false
set_option maxRecDepth 100000
set_option maxHeartbeats 4000000
set_option autoImplicit false
namespace UX
open PySem PySem.Spec PyProof.Rows L2
open EL (Ex RB BOk Bn TK)
def AskW (sp : Sp) (E : XK) (vs : List V) (H : Hp) (Q : Bool → Hp → Prop) : Prop := sp vs H (fun v H' => ∃ k, v = .bl k ∧ Q k H') E
def CmpW (K : PySem.W.Frag) (C : Addr) (sp : Sp) (E : XK) (x y : V) (H : Hp) (Q : Bool → Hp → Prop) : Prop :=
  (∃ a dx fs, x = .ref a ∧ H a = some (.ins C dx fs) ∧ ((∃ b dy gs, y = .ref b ∧ H b = some (.ins C dy gs)) ∨ (∃ t, TyX K H y (.type t) ∧ t ∈ okT)) ∧ AskW sp E [x, y] H Q) ∨
  (∃ a dx fs t, y = .ref a ∧ H a = some (.ins C dx fs) ∧ TyE H x t ∧ t ∈ okT ∧ AskW sp E [y, x] H Q)
section
variable {X : Cx} {CX : CXT} {k : Nat} {f C : Addr} {fd : FuncData} {ps : List Str} {sp : Sp} {E : XK}
theorem CmpW.kind {K : PySem.W.Frag} {x y : V} {H : Hp} {Q : Bool → Hp → Prop} (h : CmpW K C sp E x y H Q) : (∃ b, x = .ref b) ∨ ∃ t, TyE H x t := by
  rcases h with ⟨a, dx, fs, rfl, _⟩ | ⟨a, dx, fs, t, _, _, ty, _⟩
  · exact .inl ⟨_, rfl⟩
  · exact .inr ⟨t, ty⟩
end
section
variable {F : Fr} {δ : Dl} {ta tb : TE} {wa wb : M U} {E : XK} {f : List U → M U} {c : Str} {g : Bool → Bool}
end
end UX

set_option Elab.async false
set_option linter.all false
set_option maxRecDepth 100000
set_option maxHeartbeats 4000000
set_option autoImplicit false
namespace UX
open PySem PySem.Spec PyProof.Rows L2
open EL (Ex RB BOk Bn TK)
section
variable {F : Fr} {δ : Dl} {ta tb : TE} {wa wb : M U} {E : XK} {f : List U → M U} {c : Str} {g : Bool → Bool}
end
end UX

set_option Elab.async false
set_option linter.all false
set_option maxRecDepth 100000
set_option maxHeartbeats 4000000
set_option autoImplicit false
namespace UX
open PySem PySem.Spec PyProof.Rows L2 UY
open EL (Ex RB BOk Bn TK)
section
variable {F : Fr} {δ : Dl} {wi wi1 : TI} {g g1 : TG} {tt tt1 : TT} {te : TE} {vs vs1 : List Nat} {wl : M (List U)} {w : World}
end
end UX

set_option Elab.async false
set_option linter.all false
set_option maxRecDepth 100000
set_option maxHeartbeats 4000000
set_option autoImplicit false
namespace UX
open PySem PySem.Spec PyProof.Rows L2
open EL (Ex RB BOk Bn TK)
inductive EvJs (F : Fr) (δ : Dl) : List TE → List (M U) → Prop where
  | nil : EvJs F δ [] []
  | cons {t : TE} {w : M U} {ts : List TE} {ws : List (M U)} (h : EvW F t δ w) (r : EvJs F δ ts ws) : EvJs F δ (t :: ts) (w :: ws)
section
variable {F : Fr} {δ : Dl} {te : TE} {wa : M U}
end
end UX

set_option Elab.async false
set_option linter.all false
set_option maxRecDepth 100000
set_option maxHeartbeats 4000000
set_option autoImplicit false
namespace UX
open PySem PySem.Spec PyProof.Rows L2
open EL (Ex RB BOk Bn TK)
section
variable {F : Fr} {δ : Dl}
end
end UX

set_option Elab.async false
set_option linter.all false
set_option maxRecDepth 100000
set_option maxHeartbeats 4000000
set_option autoImplicit false
namespace UX
open PySem PySem.Spec PyProof.Rows L2
open EL (Ex RB BOk Bn TK rEqU rNeU rLtU iSeqU rLenQ)
section
variable {F : Fr} {os : Os} {as : SA} {st : Sto} {γ : List (U × V)} {H : Hp} {σ : L2.St} {δ : Dl}
end
section
variable {F : Fr} {S L : Type} {δ : Dl} {δn : S → Dl} {δl : L → Dl} {t2 : TS} {i : Nat} {Sh0 : Sh}
def setItH (h : Hl) (n x : U) : Option U := match h.1, n with
  | .lst us, .int n => match ixN us.length n with
    | some j => some (h.2 (.lst (us.set j x)))
    | none => none
  | _, _ => none
end
end UX

set_option Elab.async false
set_option linter.all false
set_option maxRecDepth 100000
set_option maxHeartbeats 4000000
set_option autoImplicit false
namespace UX
open PySem PySem.Spec PyProof.Rows L2 UY
open EL (Ex RB BOk Bn TK rListQ)
section
variable {G : Cxt} {rs : List Addr} {B : Bn} {H : Hp}
end
section
variable {F : Fr} {os : Os} {as : SA} {st : Sto} {γ : List (U × V)} {H : Hp} {σ : L2.St} {δ : Dl}
theorem SDo.mask (Q : SDo F os as st γ H σ δ) : Go F.as0 as F.H0 (inF F os H as).H0 := by
  have no : ∀ {a : Addr} {o : HO}, F.H0 a = some o → a ∉ flo os := fun {a o} e m => by rw [Q.new a m] at e; cases e
  have up : ∀ {a : Addr} {o : HO}, F.H0 a = some o → H a = some o → (inF F os H as).H0 a = some o := fun {a o} e h => by
    unfold inF
    simp only
    rw [if_neg (no e)]
    exact h
  refine ⟨⟨fun a o n e => up e (Q.rel.rb.keep a o n e), fun a xs e => up e (Q.rel.rb.tup a xs e), fun a x u e => up e (Q.rel.rb.frz a x u e), fun a m n => ?_⟩, Q.rel.pre, Q.rel.new⟩
  cases e : F.H0 a with
  | none => exact absurd e n
  | some o =>
    have := Q.rel.alive n
    unfold inF
    simp only
    rw [if_neg (no e)]
    exact this
theorem SDo.without2 {os' : Os} {as' : SA} {st' : Sto} {H1 H' H2 : Hp} {σ' : L2.St} {δ' : Dl} (S : SDo F os as st γ H σ δ) (hn : ∀ a, H1 a = none → H a = none) (S' : SDo (inF F os H1 as) os' as' st' γ H' σ' δ') (g : Go as as' (inF F os H as).H0 H2) (kd : ∀ B : Bn, Kd B H' H2) (kp : ∀ a, a ∈ flo os' ∨ a ∈ fl as' → H2 a = H' a) (al : ∀ a, H' a ≠ none → H2 a ≠ none) : SDo F os' as' st' γ H2 σ' δ' := by
  have up : ∀ u v, im F.G (rts as') (ban F os' as') u v H' → im F.G (rts as') (ban F os' as') u v H2 := fun u v h => im_kd (kd _) u v h
  refine ⟨fun p m => up _ _ (S'.gh p m), S.mask.trans g, fun a b => al a (S'.ok a b), S'.nd, S'.ix, fun a m => ?_, S'.nb, StOk.mono up (fun a xs h => (kd noB).tup a xs h) (fun a m => kp a (.inr m)) S'.sto, S'.len, fun i s e => ?_⟩
  · rcases inF_none (S'.new a m) with z | z
    · exact S.new a z
    · exact S.rel.fresh (hn a z)
  · obtain ⟨v, h1, h2⟩ := S'.at_ i s e
    refine ⟨v, h1, ?_⟩
    match s, h2 with
    | .im u, h2 => exact up _ _ h2
    | .raw _, h2 => exact h2
    | .own s u, ⟨A, m, h2⟩ => exact ⟨A, m, own_mono up (fun a xs h => (kd noB).tup a xs h) s u v A (fun a z => kp a (.inl (mem_flo m z))) h2⟩
end
section
variable {F : Fr} {S L : Type} {δ : Dl} {wi : TI} {g : TG} {tb : TS} {wl : M (List U)} {δl : S → Dl} {δ2 : L → Dl}
theorem for_at {vs : List Nat} {f : U → S → M (Out S S)} {s0 : S} {D : Ends} {os : Os} {as : SA} {st : Sto} {γ : List (U × V)} {σ : L2.St} {H : Hp} {o : Out S L} {st' : Sto} (Q : SDo F os as st γ H σ δ)
    (hs : ∀ us st1, wl st = some (.ok us, st1) → ∀ Q : It → Hp → Prop, (∀ J H' as' gh, Go as as' H H' → SDo F os as' st1 (gh ++ γ) H' σ δ → WalkU F J us gh → Q J H') → wi σ H Q) (h0 : Weak δ (δl s0))
    (hb : ∀ u s st r, f u s st = some r → ∃ δ', TgOk F g vs (δl s) u δ' ∧ Blk F tb δ' (f u s) δl δl) (q : (M.bind wl fun us => forO (L := L) f us s0) st = some (.ok o, st')) (P : Post F D γ st' δl δ2 o) : tFor wi g tb D σ H := by
  obtain ⟨us, st1, qs, q⟩ := M.bind_inv q
  refine hs us _ qs _ fun J H1 as1 gh g1 S1 W => ?_
  refine ⟨fun i m σ Hc => m = us.length - i ∧ i ≤ us.length ∧ ∃ os2 as2 st2 s, SDo F os2 as2 st2 (gh ++ γ) Hc σ (δl s) ∧ forO (L := L) f (us.drop i) s st2 = some (.ok o, st'), ⟨us.length, by simp, Nat.zero_le _, os, as1, st1, s0, S1.weak h0, by rw [List.drop_zero]; exact q⟩, ?_⟩
  rintro i m σ2 Hc ⟨rfl, hi, os2, as2, st2, s, S2, q2⟩
  by_cases hlt : i < us.length
  · right
    refine ⟨W.goes i os2 as2 st2 γ σ2 _ Hc hlt S2, ?_⟩
    have ed : us.drop i = us[i] :: us.drop (i + 1) := List.drop_eq_getElem_cons hlt
    rw [ed, forO] at q2
    obtain ⟨o1, st3, q3, q2⟩ := M.bind_inv q2
    obtain ⟨δ', tg, bk⟩ := hb us[i] s st2 _ q3
    refine ⟨fun σ' H' => ∃ m', m' < us.length - i ∧ m' = us.length - (i + 1) ∧ i + 1 ≤ us.length ∧ ∃ os2 as2 st2 s, SDo F os2 as2 st2 (gh ++ γ) H' σ' (δl s) ∧ forO (L := L) f (us.drop (i + 1)) s st2 = some (.ok o, st'), fun σ' H' ⟨m', h1, h2, h3⟩ => ⟨m', h1, h2, h3⟩, fun x H' y => ?_⟩
    obtain ⟨ex, px⟩ := W.yields i os2 as2 st2 γ σ2 _ x Hc H' us[i] (List.getElem?_eq_getElem hlt) S2 y
    refine tg.2 os2 as2 st2 (gh ++ γ) H' σ2 x (S2.ex ex) px _ fun σ3 _ S3 => bk _ os2 as2 st2 (gh ++ γ) σ3 H' o1 st3 S3 q3 ?_
    cases o1 with
    | nx s' => exact fun os4 as4 σ4 H4 S4 => ⟨us.length - (i + 1), by omega, rfl, hlt, os4, as4, st3, s', S4, q2⟩
    | ct s' => exact fun os4 as4 σ4 H4 S4 => ⟨us.length - (i + 1), by omega, rfl, hlt, os4, as4, st3, s', S4, q2⟩
    | bk s' =>
      cases q2
      exact fun os4 as4 σ4 H4 S4 => P os4 as4 σ4 H4 S4.unghost
    | rt u =>
      cases q2
      exact P
  · left
    have e : i = us.length := by omega
    subst e
    rw [List.drop_length] at q2
    cases q2
    exact ⟨W.stops os2 as2 _ γ σ2 _ Hc S2, P os2 as2 σ2 Hc S2.unghost⟩
def noRt (w : M (Out S L)) : M (Out S L) := .bind w fun o => match o with
  | .nx s => .ret (.nx s)
  | _ => .fail
end
end UX

set_option Elab.async false
set_option linter.all false
set_option maxRecDepth 100000
set_option maxHeartbeats 4000000
set_option autoImplicit false
namespace UX
open PySem PySem.Spec PyProof.Rows L2 UY
open EL (Ex RB BOk Bn TK)
section
variable {G : Cxt} {rs : List Addr} {B : Bn} {H : Hp}
end
section
variable {F : Fr}
end
end UX

set_option Elab.async false
set_option linter.all false
set_option maxRecDepth 100000
set_option maxHeartbeats 4000000
set_option autoImplicit false
namespace UX
open PySem PySem.Spec PyProof.Rows L2 UY
open EL (Ex RB BOk Bn TK)
section
variable {F : Fr}
end
section
variable {F : Fr} {δ : Dl} {i j l : Nat} {vs : List Nat}
end
end UX

set_option Elab.async false
set_option linter.all false
set_option maxRecDepth 100000
set_option maxHeartbeats 4000000
set_option autoImplicit false
namespace UY
open PySem PySem.Spec PyProof.Rows L2
section
variable {X : Cx}
end
end UY
namespace UX
open PySem PySem.Spec PyProof.Rows L2 UY
theorem TgOk.to {F : Fr} {g : TG} {vs : List Nat} {δ δ1 δ2 : Dl} {u : U} (h : TgOk F g vs δ u δ1) (e : δ1 = δ2) : TgOk F g vs δ u δ2 := e ▸ h
end UX

set_option Elab.async false
set_option linter.all false
set_option maxRecDepth 100000
set_option maxHeartbeats 4000000
set_option autoImplicit false
namespace SrtO
open PySem PyProof.Rows
section
variable {prog : Program} {w : World} {A : Around} {E : Value → Shared → Prop} {s : Shared}
end
end SrtO
namespace L2
open PySem PySem.Spec PyProof.Rows
section
variable {X : Cx}
end
end L2
namespace UX
open PySem PySem.Spec PyProof.Rows L2
open EL (Ex RB BOk Bn TK)
def RowsOkL (d : Nat) (L : List (List Int)) : Prop := 1 ≤ d ∧ ∀ ns ∈ L, ns.length = d ∧ TS.Bd B0 ns
instance (d : Nat) (L : List (List Int)) : Decidable (RowsOkL d L) := by unfold RowsOkL TS.Bd; infer_instance
section
variable {F : Fr}
end
end UX

set_option Elab.async false
set_option linter.all false
set_option maxRecDepth 100000
set_option maxHeartbeats 4000000
set_option autoImplicit false
namespace UX
open PySem PySem.Spec PyProof.Rows L2
end UX

set_option Elab.async false
set_option linter.all false
set_option maxRecDepth 100000
set_option maxHeartbeats 4000000
set_option autoImplicit false
namespace UX
open PySem PySem.Spec PyProof.Rows L2 UY
open EL (Ex RB BOk Bn TK rMulU rEqU)
def andU : U → U → Option U
  | .int i, .int j => some (.int (Builtin.bitAnd i j))
  | _, _ => none
def orU : U → U → Option U
  | .int i, .int j => some (.int (Builtin.bitOr i j))
  | _, _ => none
def addIU : U → U → Option U
  | .int i, .int j => some (.int (i + j))
  | _, _ => none
section
variable {F : Fr}
theorem ok_and : OpOk F (rI0 fun i j => .int (Builtin.bitAnd i j)) andU := op_I0 fun a b c e => by
  cases a <;> cases b <;> simp [andU] at e
  subst e; exact ⟨_, _, rfl, rfl, fun _ _ _ => rfl⟩
theorem ok_or : OpOk F (rI0 fun i j => .int (Builtin.bitOr i j)) orU := op_I0 fun a b c e => by
  cases a <;> cases b <;> simp [orU] at e
  subst e; exact ⟨_, _, rfl, rfl, fun _ _ _ => rfl⟩
def IpOk (ti : TIp) (f : U → U → Option U) : Prop := ∀ a b c, f a b = some c → ∃ i j k, a = .int i ∧ b = .int j ∧ c = .int k ∧ ∀ H (Q : VK), Q (.int k) H → ti (.int i) (.int j) H Q
theorem ip_okAdd : IpOk (ipI fun i j => i + j) addIU := fun a b c e => by
  cases a <;> cases b <;> simp [addIU] at e
  subst e; exact ⟨_, _, _, rfl, rfl, rfl, fun H Q q => ⟨_, _, rfl, rfl, q⟩⟩
theorem ip_okOr : IpOk (rI0 fun i j => .int (Builtin.bitOr i j)) orU := fun a b c e => by
  cases a <;> cases b <;> simp [orU] at e
  subst e; exact ⟨_, _, _, rfl, rfl, rfl, fun H Q q => ⟨_, _, rfl, rfl, q⟩⟩
end
theorem get_list {X : Cx} (K : PySem.W.Frag) (hK : X.K = K := by rfl) : PGet X (rIxL K) := by
  subst hK
  intro pins s σ H x y v u Q I rx ry h
  obtain ⟨p, xs, i, z, rfl, rfl, hq, he, q⟩ := h
  cases rx
  obtain ⟨t, rfl⟩ := ry
  obtain ⟨its, r, pl, hz⟩ := I.list hq
  obtain ⟨j, h1, h2, h3, h4, h5⟩ := atI_get he
  obtain ⟨w, ew, rw'⟩ := r.get h2
  have hl := r.length
  have hn := line63
  have fin : EP X pins σ Q w s := ⟨z, H, I, rw', q⟩
  by_cases h0 : 0 ≤ i
  · have hj : i.toNat = j := by
      rw [seqIndex_of h0 h5] at h1
      exact Option.some.inj h1
    exact wpAny_getItem_list pl.isList h0 (by omega) (by rw [hj]; simpa using ew) fin
  · have hj : (i + (its.toArray.size : Int)).toNat = j := by
      rw [seqIndex_neg (by omega) h4] at h1
      rw [List.size_toArray, ← hl]
      exact Option.some.inj h1
    exact wpAny_getItem_list_neg pl.isList (by omega) (by rw [List.size_toArray] <;> omega) (by omega) (by rw [hj]; simpa using ew) fin
section
variable {F : Fr} {S L : Type} {δ : Dl} {δn : S → Dl} {δl : L → Dl} {t2 : TS} {i : Nat} {Sh0 : Sh}
def getItH (h : Hl) (n : U) : Option U := match h.1, n with
  | .lst us, .int n => match ixN us.length n with
    | some j => us[j]?
    | none => none
  | _, _ => none
theorem blk_augL {te ti tp : TE} {we wi : M U} {wh : M Hl} {tip : TIp} {f : U → U → Option U} {k : U → M (Out S L)} (hf : IpOk tip f) (hh : EvH F i Sh0 (.lst .leaf) tp δ wh) (hi : EvW F ti δ wi) (he : EvW F te δ we) (h2 : ∀ u, Blk F t2 (δ.set i (some (.own Sh0 u))) (k u) δn δl) :
    Blk F (tSeq (tAugS tp ti te (rIxL F.G.K) tip rSetL) t2) δ (.bind wh fun h => .bind wi fun n => .bind (.o (getItH h n)) fun x => .bind we fun y => .bind (.o (f x y)) fun z => .bind (.o (setItH h n z)) k) δn δl := fun D os as st γ σ H o st' Q q P => by
  obtain ⟨h, st1, q1, qa⟩ := M.bind_inv q
  obtain ⟨n, st2, q2, qb⟩ := M.bind_inv qa
  obtain ⟨x, st3, q3, qc⟩ := M.bind_inv qb
  obtain ⟨y, st4, q4, qd⟩ := M.bind_inv qc
  obtain ⟨z, st5, q5, qe⟩ := M.bind_inv qd
  obtain ⟨d, st6, q6, qf⟩ := M.bind_inv qe
  clear q qa qb qc qd qe
  obtain ⟨ex, rfl⟩ := M.o_inv q3
  obtain ⟨ez, rfl⟩ := M.o_inv q5
  obtain ⟨ed, rfl⟩ := M.o_inv q6
  obtain ⟨a, b, c, rfl, rfl, rfl, hk⟩ := hf _ _ _ ez
  refine hh os as st γ σ H h _ Q q1 _ fun hv H1 as1 g1 S1 p1 => ?_
  refine hi os as1 st1 γ σ H1 n _ S1 q2 _ fun nv H2 as2 g2 S2 p2 => ?_
  have p1 := p1.go S1 g2
  obtain ⟨u1, f1⟩ := h
  cases u1 with
  | lst us =>
    cases n with
    | int n => ?_
    | _ => cases ex
    cases (show nv = _ from p2)
    simp only [getItH] at ex
    simp only [setItH] at ed
    cases ej : ixN us.length n with
    | none => rw [ej] at ex; cases ex
    | some j =>
      rw [ej] at ex ed
      simp only at ex
      cases ed
      obtain ⟨l, vs, e1, e3, zv, _⟩ := p1.setL (us' := us) S2 rfl
      obtain ⟨xv, ev, px⟩ := imAll_get zv ex
      cases (show xv = _ from px)
      refine ⟨l, vs, n, _, e1, rfl, .inl (.inl e3), ixN_eq (by rw [imAll_len zv]; exact ej) ev, ?_⟩
      refine he os as2 _ γ σ H2 _ _ S2 q4 _ fun yv H3 as3 g3 S3 py => ?_
      cases (show yv = _ from py)
      refine hk _ _ ?_
      have p1 := p1.go S2 g3
      obtain ⟨l', vs', e1', e3', zv', fin⟩ := p1.setL (us' := us.set j (.int c)) S3 rfl
      obtain ⟨A, S4, cc, so⟩ := fin (vs'.set j (.int c)) (imAll_set zv' rfl)
      exact ⟨l', vs', n, j, e1', rfl, e3', by rw [imAll_len zv']; exact ej, h2 _ D os as3 _ γ σ _ o st' S4 qf P⟩
  | _ => cases ex
def mulIU : U → U → Option U
  | .int i, .int j => if CMul i j then some (.int (i * j)) else none
  | _, _ => none
theorem eq_mulI {ta tb : TE} {wa wb : M U} (ha : EvQ F ta δ wa) (hb : EvQ F tb δ wb) : EvQ F (tOp (rMulU F.G.K) ta tb) δ (op2 mulIU wa wb) := fun os as st γ σ H c st' S q => by
  obtain ⟨a, st1, qa, q⟩ := M.bind_inv q
  obtain ⟨b, st2, qb, q⟩ := M.bind_inv q
  obtain ⟨e, rfl⟩ := M.o_inv q
  obtain ⟨e1, h1⟩ := ha os as st γ σ H a _ S qa
  subst e1
  obtain ⟨e2, h2⟩ := hb os as _ γ σ H b _ S qb
  refine ⟨e2, fun QQ k => h1 _ fun x px => h2 _ fun y py => ?_⟩
  cases a <;> cases b <;> simp [mulIU] at e
  obtain ⟨hc, rfl⟩ := e
  exact .inl ⟨_, _, px, py, hc, k _ rfl⟩
def getItC (c : Cl) (n : U) : Option U := match c.2.1, n with
  | .lst us, .int n => match ixN us.length n with
    | some j => us[j]?
    | none => none
  | _, _ => none
theorem blk_augC {r : Bool} {te to ti : TE} {we wi : M U} {wc : M Cl} {tip : TIp} {f : U → U → Option U} {k : M (Out S L)} (hf : IpOk tip f) (hc : EvC F r to δ wc) (hi : EvQ F ti δ wi) (he : EvQ F te δ we) (h2 : Blk F t2 δ k δn δl) :
    Blk F (tSeq (tAugS to ti te (rIxL F.G.K) tip rSetL) t2) δ (.bind wc fun c => .bind wi fun n => .bind (.o (getItC c n)) fun x => .bind we fun y => .bind (.o (f x y)) fun z => .bind (.o (setItC c n z)) fun d => .bind (putC d.1 d.2.1) fun _ => k) δn δl := fun D os as st γ σ H o st' Q q P => by
  obtain ⟨c, st1, q1, qa⟩ := M.bind_inv q
  obtain ⟨n, st2, q2, qb⟩ := M.bind_inv qa
  obtain ⟨x, st3, q3, qc⟩ := M.bind_inv qb
  obtain ⟨y, st4, q4, qd⟩ := M.bind_inv qc
  obtain ⟨z, st5, q5, qe⟩ := M.bind_inv qd
  obtain ⟨d, st6, q6, qf⟩ := M.bind_inv qe
  obtain ⟨_, st7, q7, qg⟩ := M.bind_inv qf
  clear q qa qb qc qd qe qf
  obtain ⟨ex, rfl⟩ := M.o_inv q3
  obtain ⟨ez, rfl⟩ := M.o_inv q5
  obtain ⟨ed, rfl⟩ := M.o_inv q6
  obtain ⟨a, b, c', rfl, rfl, rfl, hk⟩ := hf _ _ _ ez
  refine hc os as st γ σ H c _ Q q1 _ fun cv H1 as1 g1 S1 p1 => ?_
  obtain ⟨rfl, hq⟩ := hi os as1 _ γ σ H1 n _ S1 q2
  refine hq _ fun nv pn => ?_
  obtain ⟨rfl, hq2⟩ := he os as1 _ γ σ H1 _ _ S1 q4
  obtain ⟨j0, u1, f1⟩ := c
  cases u1 with
  | lst us =>
    cases n with
    | int n => ?_
    | _ => cases ex
    cases (show nv = _ from pn)
    simp only [getItC] at ex
    simp only [setItC] at ed
    rw [if_pos (show leafU (.int c') = true from rfl)] at ed
    cases ej : ixN us.length n with
    | none => rw [ej] at ex; cases ex
    | some j =>
      rw [ej] at ex ed
      simp only at ex ed
      rw [ex] at ed
      simp only at ed
      rw [if_pos (show leafU (.int a) = true from rfl)] at ed
      cases ed
      obtain ⟨l, vs, B, e1, e3, zv, nB, lt, fin⟩ := p1.setL (us' := us.set j (.int c')) S1
      subst e1
      obtain ⟨xv, B1, B', B2, f1', f2, f3, f4⟩ := ownFs_split zv ex
      cases (show xv = _ from f3.2)
      refine ⟨l, vs, n, _, rfl, rfl, .inl (.inl e3), ixN_eq (by rw [ownFs_len zv]; exact ej) f1', hq2 _ fun yv py => ?_⟩
      cases (show yv = _ from py)
      refine hk _ _ ?_
      simp only [putC, lt, if_true] at q7
      cases q7
      refine ⟨l, vs, n, j, rfl, rfl, e3, by rw [ownFs_len zv]; exact ej, ?_⟩
      refine h2 D os as1 _ γ σ _ o st' (fin _ fun H2 t kp => ?_) qg P
      exact ownFs_set (w := .int a) (x := .int c') (xv := .int c') rfl rfl (show im F.G _ _ (.int c') (.int c') H2 from rfl) t ex kp zv
  | _ => cases ex
theorem eqU_l (a : U) (b : List U) : eqU a (.lst b) = eqD a (.lst b) := by cases a <;> rfl
theorem ev_eqC {r : Bool} {te : TE} {w : M Cl} (h : EvC F r te δ w) : EvW F (tOp (rEqU F.G.K) te (tLst tNil)) δ (.bind w fun c => .o (eqU c.2.1 (.lst []))) := fun os as st γ σ H c st' S q QQ k => by
  obtain ⟨c1, st1, q1, q⟩ := M.bind_inv q
  obtain ⟨e, rfl⟩ := M.o_inv q
  refine h os as st γ σ H c1 _ S q1 _ fun x H1 as1 g1 S1 p1 => ⟨Nat.zero_le _, fun p hp => ?_⟩
  obtain ⟨a, A, A1, A', A2, e0, eA, o, pl⟩ := p1.ex
  have px := im_st (RB.of_ex (B := noB) (Ex.new (o := .lst []) hp)) _ _ (ownR_im0 o)
  rw [eqU_l] at e
  unfold eqD at e
  cases e1 : pd c1.2.1 with
  | none => rw [e1] at e; cases e
  | some d =>
    rw [e1] at e
    have e2 : pd (.lst []) = some (.list []) := rfl
    rw [e2] at e
    simp only at e
    split at e
    · rename_i hs
      cases e
      exact .inl ⟨d, .list [], im_dp _ _ _ px e1, .lst (EL.sqL_of upd_same) .nil, hs.1, hs.2, k _ _ as1 (g1.trans (Go.of_ex (Ex.new hp))) (S1.ex (Ex.new hp)) rfl⟩
    · cases e
end
end UX

set_option Elab.async false
set_option linter.all false
set_option maxRecDepth 100000
set_option maxHeartbeats 4000000
set_option autoImplicit false
namespace UX
open PySem PySem.Spec PyProof.Rows L2 UY
open EL (Ex RB BOk Bn TK rMulU rEqU)
section
variable {F : Fr} {S L : Type} {δ : Dl} {i : Nat} {Sh0 : Sh} {te td tx : TE}
end
section
variable {F : Fr} {os : Os} {as : SA} {st : Sto} {γ : List (U × V)} {H : Hp} {σ : L2.St} {δ : Dl} {i : Nat} {A C : List Addr}
end
section
variable {F : Fr} {S L : Type} {δ : Dl} {δn : S → Dl} {δl : L → Dl} {t2 : TS} {i : Nat}
end
end UX

set_option Elab.async false
set_option linter.all false
set_option maxRecDepth 100000
set_option maxHeartbeats 4000000
set_option autoImplicit false
namespace UX
open PySem PySem.Spec PyProof.Rows L2 UY
open EL (Ex RB BOk Bn TK rMulU rEqU)
section
variable {F : Fr} {os : Os} {as : SA} {st : Sto} {γ : List (U × V)} {H : Hp} {σ : L2.St} {δ : Dl}
theorem go_put {as3 : SA} {H3 : Hp} {p : Addr} {o o' : HO} (hp : H p = none) (g : Go as as3 (upd H p o) H3) (h3 : H3 p = some o) (nt : ∀ xs, o ≠ .tup xs) (nf : ∀ x u, o ≠ .frz x u) : Go as as3 H (upd H3 p o') := by
  have ne : ∀ {a : Addr} {x : HO}, H a = some x → a ≠ p := fun e z => by rw [z, hp] at e; cases e
  refine ⟨⟨fun a x n e => ?_, fun a xs e => ?_, fun a x u e => ?_, fun a _ n => ?_⟩, g.pre, fun a m => ?_⟩
  · rw [upd_ne (ne e)]; exact g.rb.keep a x n (by rw [upd_ne (ne e)]; exact e)
  · rw [upd_ne (ne e)]; exact g.rb.tup a xs (by rw [upd_ne (ne e)]; exact e)
  · rw [upd_ne (ne e)]; exact g.rb.frz a x u (by rw [upd_ne (ne e)]; exact e)
  · by_cases z : a = p
    · rw [z, upd_same]; exact fun z => nomatch z
    · rw [upd_ne z]
      refine g.alive ?_
      rw [upd_ne z]; exact n
  · rcases g.new a m with z | z
    · exact .inl z
    · by_cases w : a = p
      · rw [w]; exact .inr hp
      · rw [upd_ne w] at z; exact .inr z
theorem im_banG {B B' : Bn} (h : ∀ a, B a ↔ B' a) {rs : List Addr} {u : U} {v : V} (q : im F.G rs B u v H) : im F.G rs B' u v H := im_sub (fun a _ z => (h a).mpr z) _ _ q
end
end UX

set_option Elab.async false
set_option linter.all false
set_option maxRecDepth 100000
set_option maxHeartbeats 4000000
set_option autoImplicit false
namespace UX
open PySem PySem.Spec PyProof.Rows L2 UY
open EL (Ex RB BOk Bn TK rMulU rEqU)
structure LSN (F : Fr) (s : Sh) (os : Os) (k0 : Nat) (D : Addr) (as : SA) (st : Sto) (γ : List (U × V)) (H : Hp) (σ : L2.St) (δ : Dl) (accU : List U) (A : List Addr) : Prop where
  S : SDo F ((k0, D :: A) :: os) as st γ H σ δ
  a : ∃ acc, H D = some (.lst acc) ∧ ownZ (fun _ => ownD F.G (rts as) (ban F ((k0, D :: A) :: os) as) s) 0 accU acc H A
section
variable {F : Fr} {os : Os} {as as' : SA} {st st' : Sto} {γ : List (U × V)} {H H' : Hp} {σ : L2.St} {δ : Dl} {k0 : Nat} {D : Addr} {accU : List U} {A : List Addr} {s : Sh}
theorem ownZ_go {s : Sh} {os : Os} {us : List U} {n : Nat} {vs : List V} {A : List Addr} (g : Go as as' H H') (h : ownZ (fun _ => ownD F.G (rts as) (ban F os as) s) n us vs H A) (k : ∀ a ∈ A, a ∉ fl as) (al : ∀ a ∈ A, H a ≠ none) : ownZ (fun _ => ownD F.G (rts as') (ban F os as') s) n us vs H' A :=
  ownZ_mono (fun n u v A1 hs ho => own_mono (fun _ _ h => im_go g h) (fun _ _ h => sqT_go g h) _ _ _ _ (fun a m => by
    cases e : H a with
    | none => exact absurd e (al a (hs a m))
    | some o => exact g.rb.keep a o (k a (hs a m)) e) ho) h
theorem LSN.go (l : LSN F s os k0 D as st γ H σ δ accU A) {σ' : L2.St} {δ' : Dl} (g : Go as as' H H') (S : SDo F ((k0, D :: A) :: os) as' st' γ H' σ' δ') : LSN F s os k0 D as' st' γ H' σ' δ' accU A := by
  obtain ⟨acc, e, h⟩ := l.a
  have nf : ∀ a ∈ D :: A, a ∉ fl as := fun a m q => (List.nodup_append.mp l.S.nd).2.2 a (List.mem_append_left _ m) a q rfl
  exact ⟨S, acc, g.rb.keep _ _ (nf D List.mem_cons_self) e, ownZ_go g h (fun a m => nf a (List.mem_cons_of_mem _ m)) fun a m => l.S.ok a (.inr (.inl (List.mem_append_left _ (List.mem_cons_of_mem _ m))))⟩
theorem LSN.push {k : Nat} {B : List Addr} (l : LSN F s os k0 D as st γ H σ δ accU A) (hk : δ.length ≤ k0) (hk1 : δ.length ≤ k) (hko : k0 ∉ os.map (·.1)) {u : U} {y : V} {as2 : SA} {st2 : Sto} {H2 : Hp} (g : Go as as2 H H2) (S2 : SDo F ((k, B) :: (k0, D :: A) :: os) as2 st2 γ H2 σ δ) (hB : ∀ a ∈ B, H a = none) (p : ownD F.G (rts as2) (ban F ((0, B) :: (k0, D :: A) :: os) as2) s u y H2 B) :
    ∃ acc, H2 D = some (.lst acc) ∧ acc.length = accU.length ∧ LSN F s os k0 D as2 st2 γ (upd H2 D (.lst (acc ++ [y]))) σ δ (accU ++ [u]) (A ++ B) := by
  obtain ⟨acc, e, h⟩ := l.a
  have nf : ∀ a ∈ D :: A, a ∉ fl as := fun a m q => (List.nodup_append.mp l.S.nd).2.2 a (List.mem_append_left _ m) a q rfl
  have al : ∀ a ∈ D :: A, H a ≠ none := fun a m => l.S.ok a (.inr (.inl (List.mem_append_left _ m)))
  have e2 : H2 D = some (.lst acc) := g.rb.keep _ _ (nf D List.mem_cons_self) e
  have h2 : ownZ (fun _ => ownD F.G (rts as2) (ban F ((k, B) :: (k0, D :: A) :: os) as2) s) 0 accU acc H2 A := by
    have h1 : ownZ (fun _ => ownD F.G (rts as) (ban F ((k, B) :: (k0, D :: A) :: os) as) s) 0 accU acc H A := ownZ_mono (fun n u v A1 hs ho => own_mono (fun _ _ z => im_sub (sub_cons hB) _ _ z) (fun _ _ z => z) _ _ _ _ (fun _ _ => rfl) ho) h
    exact ownZ_go (os := (k, B) :: (k0, D :: A) :: os) g h1 (fun a m => nf a (List.mem_cons_of_mem _ m)) fun a m => al a (List.mem_cons_of_mem _ m)
  have S3 := S2.merge (k := k0) hk hk1 hko
  have c : Chg F ((k0, (D :: A) ++ B) :: os) as2 H2 (upd H2 D (.lst (acc ++ [y]))) k0 ((D :: A) ++ B) ((D :: A) ++ B) D := chg_same List.mem_cons_self List.mem_cons_self S3 e2 (fun _ z => nomatch z) (fun _ _ z => nomatch z)
  have S4 := S3.mut c (x := none) (fun _ z => nomatch z)
  have so := setOs_same S3.ix (List.mem_cons_self (a := (k0, (D :: A) ++ B)) (l := os))
  rw [so, List.set_eq_of_length_le hk] at S4
  have bb : ∀ a, ban F ((k0, (D :: A) ++ B) :: os) as2 a → ban F ((k, B) :: (k0, D :: A) :: os) as2 a := fun a b => by
    rw [ban_cons, List.mem_append] at b
    rw [ban_cons, ban_cons]
    rcases b with (h | h) | h
    · exact .inr (.inl h)
    · exact .inl h
    · exact .inr (.inr h)
  have up : ∀ u v, im F.G (rts as2) (ban F ((k, B) :: (k0, D :: A) :: os) as2) u v H2 → im F.G (rts as2) (ban F ((k0, D :: (A ++ B)) :: os) as2) u v (upd H2 D (.lst (acc ++ [y]))) := fun u v h => by
    have h1 : im F.G (rts as2) (ban F ((k0, (D :: A) ++ B) :: os) as2) u v H2 := im_sub (fun a _ b => bb a b) _ _ h
    have := c.im h1
    rw [so] at this
    exact this
  have nd : ((D :: A) ++ B).Nodup := os_nodup _ (List.nodup_append.mp S3.nd).1 List.mem_cons_self
  have nD := (List.nodup_cons.mp (show (D :: (A ++ B)).Nodup from nd)).1
  have tt : ∀ c xs, H2 c = some (.tup xs) → (upd H2 D (.lst (acc ++ [y]))) c = some (.tup xs) := fun c xs h => by rw [upd_ne (fun e => by rw [e, e2] at h; cases h)]; exact h
  refine ⟨acc, e2, ownZ_len h, S4, acc ++ [y], upd_same, ?_⟩
  have hz := ownZ_mono (P' := fun _ => ownD F.G (rts as2) (ban F ((k0, D :: (A ++ B)) :: os) as2) s) (H' := upd H2 D (.lst (acc ++ [y]))) (fun n u v A1 hs ho => own_mono up tt _ _ _ _ (fun a m => upd_ne fun z => nD (z ▸ List.mem_append_left _ (hs a m))) ho) h2
  exact ownZ_snoc1 hz (own_mono up tt _ _ _ _ (fun a m => upd_ne fun z => nD (z ▸ List.mem_append_right _ m)) p)
end
section
variable {F : Fr} {δ : Dl} {wi : TI} {g : TG} {tt : TT} {te : TE} {vs : List Nat} {wl : M (List U)} {s : Sh}
end
section
variable {G : Cxt} {rs : List Addr} {B : Bn} {H : Hp}
end
section
variable {F : Fr} {δ : Dl} {te tk : TE}
end
end UX

set_option Elab.async false
set_option linter.all false
set_option maxRecDepth 100000
set_option maxHeartbeats 4000000
set_option autoImplicit false
namespace UX
open PySem PySem.Spec PyProof.Rows L2 UY
open EL (Ex RB BOk Bn TK rMulU rEqU)
mutual
def noL : U → Bool
  | .non => true
  | .bl _ => true
  | .int _ => true
  | .str _ => true
  | .top _ => true
  | .loc _ => true
  | .tup us => noLs us
  | _ => false
def noLs : List U → Bool
  | [] => true
  | u :: us => noL u && noLs us
end
section
variable {G : Cxt} {rs : List Addr} {B B' : Bn} {H : Hp}
mutual
theorem im_noL : ∀ (u : U) (v : V), noL u = true → im G rs B u v H → im G rs B' u v H
  | .non, _, _, h => h
  | .bl _, _, _, h => h
  | .int _, _, _, h => h
  | .str _, _, _, h => h
  | .top _, _, _, h => h
  | .loc _, _, _, h => h
  | .tup us, _, e, ⟨a, vs, e1, h, q⟩ => ⟨a, vs, e1, h, imAll_noL us vs e q⟩
  | .lst _, _, e, _ => by cases e
  | .dct _ _, _, e, _ => by cases e
  | .dcT _ _, _, e, _ => by cases e
  | .dcN _ _, _, e, _ => by cases e
  | .obj _ _ _, _, e, _ => by cases e
  | .frl _, _, e, _ => by cases e
theorem imAll_noL : ∀ (us : List U) (vs : List V), noLs us = true → imAll G rs B us vs H → imAll G rs B' us vs H
  | [], _, _, h => h
  | u :: us, _, e, ⟨v, r, ev, h1, h2⟩ => by
    have e' := Bool.and_eq_true_iff.mp (show (noL u && noLs us) = true from e)
    exact ⟨v, r, ev, im_noL u v e'.1 h1, imAll_noL us r e'.2 h2⟩
end
theorem leaf_noL {u : U} (h : noL u = true) : leafU u = true := by cases u <;> first | rfl | cases h
theorem leafs_noL : ∀ {us : List U}, noLs us = true → us.all leafU = true
  | [], _ => rfl
  | u :: us, e => by
    have e' := Bool.and_eq_true_iff.mp (show (noL u && noLs us) = true from e)
    exact Bool.and_eq_true_iff.mpr ⟨leaf_noL e'.1, leafs_noL e'.2⟩
def cellN : U → Bool
  | .lst us => noLs us
  | u => noL u
theorem ownC_noL {u : U} {v : V} {A : List Addr} (e : cellN u = true) (h : ownC G rs B u v H A) : ownC G rs B' u v H A := by
  cases u with
  | lst us =>
    have e : noLs us = true := e
    obtain ⟨a, vs, A', e1, e2, e3, z⟩ := (show ownF G rs B (.lst us) v H A from h)
    obtain ⟨zA, hv⟩ := (flat_ownFs (leafs_noL e)).mp z
    exact (show ownF G rs B' (.lst us) v H A from ⟨a, vs, A', e1, e2, e3, (flat_ownFs (leafs_noL e)).mpr ⟨zA, imAll_noL _ _ e hv⟩⟩)
  | obj _ _ _ => cases e
  | dct _ _ => cases e
  | dcT _ _ => cases e
  | dcN _ _ => cases e
  | frl _ => cases e
  | non => exact ⟨h.1, im_noL _ _ e h.2⟩
  | bl _ => exact ⟨h.1, im_noL _ _ e h.2⟩
  | int _ => exact ⟨h.1, im_noL _ _ e h.2⟩
  | str _ => exact ⟨h.1, im_noL _ _ e h.2⟩
  | tup _ => exact ⟨h.1, im_noL _ _ e h.2⟩
  | top _ => exact ⟨h.1, im_noL _ _ e h.2⟩
  | loc _ => exact ⟨h.1, im_noL _ _ e h.2⟩
theorem StOk.noL : ∀ {as : SA} {st : Sto}, st.all cellN = true → StOk G B rs as st H → StOk G B' rs as st H
  | [], [], _, _ => trivial
  | p :: as, u :: st, e, ⟨h1, h2⟩ => by
    have e' := Bool.and_eq_true_iff.mp (show (cellN u && st.all cellN) = true from e)
    exact ⟨ownC_noL e'.1 h1, StOk.noL e'.2 h2⟩
  | [], _ :: _, _, h => h.elim
  | _ :: _, [], _, h => h.elim
end
section
variable {F : Fr} {δ : Dl}
theorem im_goA {os : Os} {as as' : SA} {H H' : Hp} {A' : List Addr} {k : Nat} (g : Go as as' H H') (fr : ∀ a ∈ A', H a = none) {u : U} {v : V} (h : im F.G (rts as) (ban F os as) u v H) : im F.G (rts as') (ban F ((k, A') :: os) as') u v H' :=
  im_go g (im_sub (sub_cons fr) _ _ h)
theorem SDo.back {os : Os} {as as' : SA} {st st' : Sto} {γ : List (U × V)} {H H' : Hp} {σ : L2.St} {i k k0 : Nat} {A' : List Addr} {δ' : Dl} (S : SDo F os as st γ H σ δ) (g : Go as as' H H') (fr : ∀ a ∈ A', H a = none)
    (S2 : SDo F ((k0, A') :: os.filter fun q => decide (q.1 ≠ i)) as' st' γ H' σ δ') (cn : st'.all cellN = true) (hk : k ∉ os.map (·.1)) : SDo F ((k, A') :: os) as' st' γ H' σ δ := by
  have al : ∀ a ∈ flo os, H' a ≠ none := fun a m => g.alive (S.ok a (.inr (.inl m)))
  have nd2 := List.nodup_append.mp S2.nd
  have ndA : A'.Nodup := (List.nodup_append.mp (show (A' ++ flo _).Nodup from nd2.1)).1
  have dj : ∀ a ∈ flo os, a ∉ fl as' := fun a m q => by
    rcases g.new a q with z | z
    · exact (List.nodup_append.mp S.nd).2.2 a m a z rfl
    · exact S.ok a (.inr (.inl m)) z
  have djA : ∀ a ∈ A', a ∉ fl as' := fun a m q => nd2.2.2 a (List.mem_append_left _ m) a q rfl
  have djO : ∀ a ∈ A', a ∉ flo os := fun a m q => S.ok a (.inr (.inl q)) (fr a m)
  refine ⟨fun p m => im_goA g fr (S.gh p m), S.rel.trans g, fun a b => ?_, ?_, List.nodup_cons.mpr ⟨hk, S.ix⟩, fun a m => ?_, fun a z b => ?_, StOk.noL cn S2.sto, S.len, fun j s e => ?_⟩
  · rcases ban_cons.mp b with b | b | b | b
    · exact S2.ok a (.inr (.inl (List.mem_append_left _ b)))
    · exact g.alive (S.ok a (.inl b))
    · exact al a b
    · exact S2.ok a (.inr (.inr b))
  · show (A' ++ flo os ++ fl as').Nodup
    refine List.nodup_append.mpr ⟨List.nodup_append.mpr ⟨ndA, (List.nodup_append.mp S.nd).1, fun a m b mb e => djO a m (e ▸ mb)⟩, nd2.2.1, fun a m b mb e => ?_⟩
    subst e
    rcases List.mem_append.mp m with m | m
    · exact djA a m mb
    · exact dj a m mb
  · rcases List.mem_append.mp (show a ∈ A' ++ flo os from m) with m | m
    · exact S.rel.fresh (fr a m)
    · exact S.new a m
  · rcases z with z | z
    · rcases List.mem_append.mp (show a ∈ A' ++ flo os from z) with m | m
      · exact S.ok a (.inl b) (fr a m)
      · exact S.nb a (.inl m) b
    · rcases g.new a z with q | q
      · exact S.nb a (.inr q) b
      · exact S.ok a (.inl b) q
  · obtain ⟨v, h1, h2⟩ := S.at_ j s e
    refine ⟨v, h1, ?_⟩
    match s, h2 with
    | .im u, h2 => exact im_goA g fr h2
    | .raw _, h2 => exact h2
    | .own sh u, ⟨B, m, h2⟩ =>
      refine ⟨B, List.mem_cons_of_mem _ m, own_mono (fun _ _ h => im_goA g fr h) (fun _ _ h => sqT_go g h) _ _ _ _ (fun a z => ?_) h2⟩
      cases e : H a with
      | none => exact absurd e (S.ok a (.inr (.inl (mem_flo m z))))
      | some o => exact g.rb.keep a o (fun q => (List.nodup_append.mp S.nd).2.2 a (mem_flo m z) a q rfl) e
end
section
variable {F : Fr} {δ : Dl} {i : Nat} {s : Sh} {d : U} {ty : TE} {wk : M U}
end
end UX

set_option Elab.async false
set_option linter.all false
set_option maxRecDepth 100000
set_option maxHeartbeats 4000000
set_option autoImplicit false
namespace UX
open PySem PySem.Spec PyProof.Rows L2 UY
open EL (Ex RB BOk Bn TK rMulU rEqU)
section
open PySem.Calls PyProof.V
variable {prog : Program} {w : World} {K K' : Type} [DecidableEq K] [DecidableEq K'] {knd : HeapKind prog w K} {knb : KeyKind prog w K'} {A : Around} {E : Value → Shared → Prop} {s : Shared}
end
section
variable {F : Fr}
end
end UX

set_option Elab.async false
set_option linter.all false
set_option maxRecDepth 100000
set_option maxHeartbeats 4000000
set_option autoImplicit false
namespace UY
open PySem PySem.Spec PyProof.Rows L2
section
variable {X : Cx}
end
end UY
namespace UX
open PySem PySem.Spec PyProof.Rows L2 UY
open EL (Ex RB BOk Bn TK)
section
variable {F : Fr} {S L : Type} {δ : Dl} {δn : S → Dl} {δl : L → Dl} {t2 : TS} {i : Nat} {tx : TE}
end
end UX

set_option Elab.async false
set_option linter.all false
set_option maxRecDepth 100000
set_option maxHeartbeats 4000000
set_option autoImplicit false
namespace UX
open PySem PySem.Spec PyProof.Rows L2 UY
open EL (Ex RB BOk Bn TK)
mutual
def tf : NestedKey → Bool
  | .none => true
  | .num _ => true
  | .text _ => false
  | .tup ks => tfs ks
def tfs : List NestedKey → Bool
  | [] => true
  | k :: ks => tf k && tfs ks
end
mutual
theorem hash_tf (w w' : World) : ∀ k : NestedKey, tf k = true → k.hash w = k.hash w'
  | .none, _ => rfl
  | .num _, _ => rfl
  | .tup ks, e => by
    show reduceHash (Builtin.Tuple.tupleHashOf (NestedKey.hashes w ks)) = reduceHash (Builtin.Tuple.tupleHashOf (NestedKey.hashes w' ks))
    rw [hashes_tf w w' ks e]
theorem hashes_tf (w w' : World) : ∀ ks : List NestedKey, tfs ks = true → NestedKey.hashes w ks = NestedKey.hashes w' ks
  | [], _ => rfl
  | k :: ks, e => by
    have e' := Bool.and_eq_true_iff.mp (show (tf k && tfs ks) = true from e)
    show NestedKey.hash w k :: NestedKey.hashes w ks = NestedKey.hash w' k :: NestedKey.hashes w' ks
    rw [hash_tf w w' k e'.1, hashes_tf w w' ks e'.2]
end
mutual
theorem nk_tf : ∀ (u : U) (k : NestedKey), nkU u = some k → tf k = true
  | .non, _, e => by cases e; rfl
  | .bl _, _, e => by cases e; rfl
  | .int _, _, e => by cases e; rfl
  | .tup us, k, e => by
    obtain ⟨ks, e1, rfl⟩ := Option.map_eq_some_iff.mp (show (nkAll us).map .tup = some k from e)
    exact nks_tf us ks e1
  | .str _, _, e => by cases e
  | .lst _, _, e => by cases e
  | .dct _ _, _, e => by cases e
  | .dcT _ _, _, e => by cases e
  | .dcN _ _, _, e => by cases e
  | .obj _ _ _, _, e => by cases e
  | .top _, _, e => by cases e
  | .frl _, _, e => by cases e
  | .loc _, _, e => by cases e
theorem nks_tf : ∀ (us : List U) (ks : List NestedKey), nkAll us = some ks → tfs ks = true
  | [], _, e => by cases e; rfl
  | u :: us, ks, e => by
    rw [nkAll] at e
    cases e1 : nkU u with
    | none => rw [e1] at e; cases e
    | some k =>
      cases e2 : nkAll us with
      | none => rw [e1, e2] at e; cases e
      | some ks' =>
        rw [e1, e2] at e
        cases e
        show (tf k && tfs ks') = true
        rw [nk_tf u k e1, nks_tf us ks' e2]; rfl
end
section
variable {P : Program} {w : World} {H : Hp} {h : Heap} {G : Cxt} {rs : List Addr} {B : Bn}
mutual
theorem nk_is (ok : HOk P w H h) : ∀ (u : U) (k : NestedKey) (v : V) (x : Value), nkU u = some k → im G rs B u v H → RelV v x → NestedIs h k x
  | .non, _, _, _, e, p, r => by
    cases e; cases p
    cases (show _ = Value.none from r); exact .none
  | .bl b, _, _, _, e, p, r => by
    cases e; cases p
    cases (show _ = Value.bool b from r); exact .bool rfl
  | .int i, _, _, _, e, p, r => by
    cases e; cases p
    obtain ⟨t, rfl⟩ := (show ∃ t, _ = Value.int i t from r); exact .int i t
  | .tup us, k, _, _, e, p, r => by
    obtain ⟨ks, e1, rfl⟩ := Option.map_eq_some_iff.mp (show (nkAll us).map .tup = some k from e)
    obtain ⟨a, vs, rfl, s, q⟩ := p
    cases (show _ = Value.ref a from r)
    obtain ⟨_, its, rr, o, h1, h2, n, h3⟩ := (show ObjOk P w H h a (.tup vs) from ok a _ s)
    exact .tup h1 h2 h3 (nks_is ok us ks vs its e1 q rr)
  | .str _, _, _, _, e, _, _ => by cases e
  | .lst _, _, _, _, e, _, _ => by cases e
  | .dct _ _, _, _, _, e, _, _ => by cases e
  | .dcT _ _, _, _, _, e, _, _ => by cases e
  | .dcN _ _, _, _, _, e, _, _ => by cases e
  | .obj _ _ _, _, _, _, e, _, _ => by cases e
  | .top _, _, _, _, e, _, _ => by cases e
  | .frl _, _, _, _, e, _, _ => by cases e
  | .loc _, _, _, _, e, _, _ => by cases e
theorem nks_is (ok : HOk P w H h) : ∀ (us : List U) (ks : List NestedKey) (vs : List V) (xs : List Value), nkAll us = some ks → imAll G rs B us vs H → Vals vs xs → NestedAll h ks xs
  | [], _, _, _, e, p, r => by
    cases e
    rw [show _ = [] from p] at r
    cases r; exact .nil
  | u :: us, ks, _, xs, e, ⟨v, vr, ev, p1, p2⟩, r => by
    subst ev
    rw [nkAll] at e
    cases e1 : nkU u with
    | none => rw [e1] at e; cases e
    | some k =>
      cases e2 : nkAll us with
      | none => rw [e1, e2] at e; cases e
      | some ks' =>
        rw [e1, e2] at e
        cases e
        cases r with
        | cons r1 r2 => exact .cons (nk_is ok u k v _ e1 p1 r1) (nks_is ok us ks' vr _ e2 p2 r2)
end
def NK (H : Hp) (b : Addr) (k : NestedKey) : Prop := tf k = true ∧ k.depth ≤ 8 ∧ ∀ (P : Program) (w : World) (h : Heap), HOk P w H h → NestedIs h k (.ref b)
def NKs (H : Hp) (kvs : List NP) : Prop := ∀ x ∈ kvs, NK H x.2.1 x.1
theorem nk8_ok {u : U} {k : NestedKey} (e : nk8 u = some k) : nkU u = some k ∧ k.depth ≤ 8 := by
  unfold nk8 at e
  cases e1 : nkU u with
  | none => rw [e1] at e; cases e
  | some k' =>
    rw [e1] at e
    simp only at e
    split at e
    · rename_i d; cases e; exact ⟨rfl, d⟩
    · cases e
theorem NK.of {u : U} {k : NestedKey} {b : Addr} (e : nk8 u = some k) (p : im G rs B u (.ref b) H) : NK H b k :=
  ⟨nk_tf u k (nk8_ok e).1, (nk8_ok e).2, fun _ _ _ ok => nk_is ok u k _ _ (nk8_ok e).1 p rfl⟩
theorem nk8s_cons {u : U} {us : List U} {ks : List NestedKey} (e : nk8s (u :: us) = some ks) : ∃ k ks', nk8 u = some k ∧ nk8s us = some ks' ∧ ks = k :: ks' := by
  rw [nk8s] at e
  cases e1 : nk8 u with
  | none => rw [e1] at e; cases e
  | some k =>
    cases e2 : nk8s us with
    | none => rw [e1, e2] at e; cases e
    | some ks' => rw [e1, e2] at e; cases e; exact ⟨k, ks', rfl, rfl, rfl⟩
theorem NKs.of : ∀ {ks : List U} {kvs : List NP}, nk8s ks = some (kvs.map (·.1)) → imAll G rs B ks (nkA kvs) H → NKs H kvs
  | [], [], _, _ => fun _ m => nomatch m
  | [], _ :: _, e, _ => by cases e
  | u :: us, [], e, p => by obtain ⟨_, _, e1, _⟩ := p; cases e1
  | u :: us, y :: kvs, e, ⟨v, r, ev, p1, p2⟩ => by
    obtain ⟨k, ks', e1, e2, e3⟩ := nk8s_cons e
    cases e3
    cases ev
    intro x m
    rcases List.mem_cons.mp m with rfl | m
    · exact NK.of e1 p1
    · exact NKs.of e2 p2 x m
end
def valN (kvs : List NP) (k : NestedKey) : Option V := (kvs.find? fun x => decide (x.1 = k)).map (·.2.2)
def putN (kvs : List NP) (k : NestedKey) (b : Addr) (v : V) : List NP := if (kvs.any fun x => decide (x.1 = k)) = true then kvs.map fun x => if x.1 = k then (x.1, x.2.1, v) else x else kvs ++ [(k, b, v)]
theorem length_putN (kvs : List NP) (k : NestedKey) (b : Addr) (v : V) : (putN kvs k b v).length ≤ kvs.length + 1 := by
  unfold putN
  split <;> simp
theorem NKs.put {H : Hp} {kvs : List NP} {k : NestedKey} {b : Addr} {v : V} (h : NKs H kvs) (hb : NK H b k) : NKs H (putN kvs k b v) := by
  unfold putN
  intro x m
  split at m
  · obtain ⟨y, my, e⟩ := List.mem_map.mp m
    split at e
    · rename_i z
      subst e
      exact h y my
    · subst e; exact h y my
  · rcases List.mem_append.mp m with m | m
    · exact h x m
    · rw [List.mem_singleton.mp m]; exact hb
theorem NKV.val {kvs : List NP} {xs : List (NestedKey × Addr × Value)} (r : NKV kvs xs) (k : NestedKey) : RelO (valN kvs k) ((atKey xs k).map (·.2)) := by
  induction r with
  | nil => exact True.intro
  | @cons p q ps qs h t ih =>
    obtain ⟨h1, _, h2⟩ := h
    by_cases e : p.1 = k
    · have e' : q.1 = k := h1.symm.trans e
      have b : atKey (q :: qs) k = some q.2 := by simp [atKey, List.find?_cons, e']
      have a : valN (p :: ps) k = some p.2.2 := by simp [valN, List.find?_cons, e]
      rw [a, b]; exact h2
    · have e' : ¬ q.1 = k := fun z => e (h1.trans z)
      have b : atKey (q :: qs) k = atKey qs k := by simp [atKey, List.find?_cons, e']
      have a : valN (p :: ps) k = valN ps k := by simp [valN, List.find?_cons, e]
      rw [a, b]; exact ih
theorem valN_any (k : NestedKey) : ∀ kvs : List NP, (kvs.any fun x => decide (x.1 = k)) = (valN kvs k).isSome
  | [] => rfl
  | x :: kvs => by
    by_cases e : x.1 = k
    · simp [valN, List.find?_cons, e]
    · have := valN_any k kvs
      simp only [valN] at this ⊢
      simp [List.find?_cons, e]
      simpa using this
theorem NKV.put {kvs : List NP} {xs : List (NestedKey × Addr × Value)} (r : NKV kvs xs) (k : NestedKey) {b : Addr} {y : V} {u : Value} (ry : RelV y u) : NKV (putN kvs k b y) (storedH xs k b u) := by
  have e : (kvs.any fun x => decide (x.1 = k)) = (atKey xs k).isSome := by
    rw [valN_any, (r.val k).isSome_eq, Option.isSome_map]
  unfold putN storedH
  rw [e]
  by_cases q : (atKey xs k).isSome = true
  · rw [if_pos q, if_pos q]
    clear e q
    induction r with
    | nil => exact .nil
    | @cons p q ps qs h t ih =>
      rw [List.map_cons, List.map_cons]
      refine .cons ?_ ih
      obtain ⟨h1, h2, h3⟩ := h
      unfold putAt
      by_cases e : p.1 = k
      · rw [if_pos e, if_pos (h1.symm.trans e)]; exact ⟨h1, h2, ry⟩
      · rw [if_neg e, if_neg (fun z => e (h1.trans z))]; exact ⟨h1, h2, h3⟩
  · rw [if_neg q, if_neg q]; exact Paired.snoc r ⟨rfl, rfl, ry⟩
section
variable {P : Program} {w : World} {H : Hp} {h : Heap} {a : Addr} {kvs : List NP}
theorem entry_tf {P P' : Program} {w w' : World} {x : NestedKey × Addr × Value} (t : tf x.1 = true) : entryOfKey (nestedKind P w) x = entryOfKey (nestedKind P' w') x := by
  unfold entryOfKey
  show DictEntry.mk (x.1.hash w) _ _ = DictEntry.mk (x.1.hash w') _ _
  rw [hash_tf w w' x.1 t]
theorem NKV.mem {xs : List (NestedKey × Addr × Value)} (r : NKV kvs xs) {x : NestedKey × Addr × Value} (m : x ∈ xs) : ∃ y ∈ kvs, y.1 = x.1 ∧ y.2.1 = x.2.1 := by
  induction r with
  | nil => cases m
  | @cons p q ps qs h t ih =>
    rcases List.mem_cons.mp m with rfl | m
    · exact ⟨p, List.mem_cons_self, h.1, h.2.1⟩
    · obtain ⟨y, my, e⟩ := ih m
      exact ⟨y, List.mem_cons_of_mem _ my, e⟩
theorem dn_rd (ok : HOk P w H h) (e : Rd H a (DNo a kvs)) (hk : NKs H kvs) : kvs.length ≤ sizeLine ∧ (a == sysModules) = false ∧ ∃ xs, NKV kvs xs ∧ h.DictOfH (nestedKind P w) a xs := by
  obtain ⟨⟨P', w', z, hd, xs, r, o, es, ep, h1, h2, h3, h4, h5⟩, _⟩ := (show ObjOk P w H h a (DNo a kvs) from rd_of ok e)
  refine ⟨z, hd, xs, r, o, es, ep, h1, h2, h3, h4.trans (List.map_congr_left fun x m => ?_), fun x m => ?_, h5⟩
  · obtain ⟨y, my, e1, _⟩ := r.mem m
    exact entry_tf (by rw [← e1]; exact (hk y my).1)
  · obtain ⟨y, my, e1, e2⟩ := r.mem m
    have := hk y my
    rw [e1, e2] at this
    exact ⟨this.2.2 P w h ok, this.2.1⟩
theorem dn_ok {xs : List (NestedKey × Addr × Value)} (z : kvs.length ≤ sizeLine) (hd : (a == sysModules) = false) (r : NKV kvs xs) (dd : h.DictOfH (nestedKind P w) a xs) : ObjOk P w H h a (DNo a kvs) := by
  obtain ⟨o, es, ep, h1, h2, h3, h4, _, h5⟩ := dd
  refine ⟨⟨P, w, z, hd, xs, r, o, es, ep, h1, h2, h3, h4, h5⟩, ⟨o, h1⟩, ?_⟩
  rintro k1 k2 ⟨P', w', z, hd, xs, r, o, es, ep, h1, h2⟩ k
  exact ⟨P', w', z, hd, xs, r, o, es, ep, k o h1, h2⟩
theorem dn_empty (h : Heap) (hb : sysModules < h.objs.size) : ObjOk P w H (h.push { cls := .type "dict", data := .dict #[] }) h.objs.size (DNo h.objs.size []) :=
  dn_ok (Nat.zero_le _) (beq_eq_false_iff_ne.mpr (Ne.symm (Nat.ne_of_lt hb))) .nil (Heap.DictOfH.new h)
end
def NPut (H : Hp) (a : Addr) (y v : V) (H' : Hp) : Prop := ∃ kvs k b, H a = some (DNo a kvs) ∧ NKs H kvs ∧ y = .ref b ∧ NK H b k ∧ kvs.length < sizeLine ∧ H' = upd H a (DNo a (putN kvs k b v))
section
variable {X : Cx} {pins : List (Addr × Obj)} {σ : L2.St} {H : Hp} {s : Shared} {a : Addr} {y v : V} {u r : Value} {o : Option V} {A : Around} {E : Value → Shared → Prop}
theorem nroom (hu : A.units + 16 < cLine) : (nestedKind X.prog X.w).room A.in1 := by
  show A.in1.units + 8 < cLine
  have : A.in1.units = A.units + 1 := Around.in1_units A
  omega
theorem n_setItem {H' : Hp} {Q : Unit → Shared → Prop} (hu : A.units + 16 < cLine) (I : Inv X pins σ H s) (g : NPut H a y v H') (ry : RelV y u) (rv : RelV v r) (h : ∀ s', Inv X pins σ H' s' → Q () s') :
    wpAny (model X.prog X.w) A (setItem (.ref a) u r) Q E s := by
  obtain ⟨kvs, k, b, e, hk, ey, eb, l, eH⟩ := g
  subst ey eH
  cases (show u = Value.ref b from ry)
  obtain ⟨z, hd, xs, rel, dd⟩ := dn_rd I.hok (.inl e) hk
  have hz : xs.length ≤ sizeLine := by rw [← Paired.length rel]; exact z
  have hl : (putN kvs k b v).length ≤ sizeLine := by have := length_putN kvs k b v; omega
  refine wpAny_setItem_heap (hsz := hz) (nroom hu) ⟨eb.2.2 _ _ _ I.hok, eb.2.1⟩ dd fun h' dd' hs => h _ ?_
  refine d_write I (by rw [e]; exact True.intro) hs (let ⟨q, _, _, hq, _⟩ := dd'; ⟨q, hq⟩) (dn_ok hl hd (rel.put k rv) dd')
end
def sNPut (td ty tv : TE) : TS := fun D σ H => tv σ H fun v H1 => td σ H1 fun x H2 => ty σ H2 fun y H3 => ∃ a H4, x = .ref a ∧ NPut H3 a y v H4 ∧ D.nx σ H4
def tNNew : TE := fun _ H Q => ∀ p, H p = none → Q (.ref p) (upd H p (DNo p []))
section
variable {X : Cx} {o i e value : Expr} {pos pos' tpos : Pos} {td ty tv : TE}
theorem ps_nput (hu : X.A.units + 66 < cLine) (ho : PE X o td) (hi : PE X i ty) (hv : PE X value tv) (hs : swapsWith value (some (.Subscript o i pos')) pos.line X.env = pure false) :
    PS X (.Assign [.Subscript o i pos'] value pos) (sNPut td ty tv) := by
  refine ⟨fun pins s σ H D I h => ?_⟩
  refine wpAny_Assign_Subscript (thn (hv.run pins s σ H _ I h) fun r s1 ⟨v, H1, I1, rv, q1⟩ => thn (ho.run pins s1 σ H1 _ I1 q1) fun u s2 ⟨x, H2, I2, rx, q2⟩ => thn (hi.run pins s2 σ H2 _ I2 q2) fun iv s3 ⟨y, H3, I3, ry, a, H4, ex, g, q3⟩ => ?_) hs
  subst ex
  obtain rfl : u = Value.ref a := rx
  exact n_setItem (by omega) I3 g ry rv fun s4 I4 => ⟨σ, H4, I4, q3⟩
theorem pe_nnew : PE X (.Dict [] [] pos) tNNew := ⟨fun pins s σ H Q I h =>
  wpAny_Dict_empty ⟨.ref s.heap.objs.size, _, I.laid (a := s.heap.objs.size) (o := DNo s.heap.objs.size []) (t' := s.toks) (fun _ _ q => Heap.get?_push_of_some _ q) (Nat.le_refl _) (dn_empty s.heap I.big), rfl, h _ (I.hok.fresh (Nat.le_refl _))⟩⟩
end
def Itn (d : Addr) (o : Obj) (kvs : List NP) : It := ⟨fun i H => H d = some (.frz o (DNo d kvs)) ∧ i < kvs.length, fun i H v H' => H' = H ∧ ∃ x, kvs[i]? = some x ∧ v = .ref x.2.1, fun i H => H d = some (.frz o (DNo d kvs)) ∧ kvs.length ≤ i⟩
theorem Inv.frzN {X : Cx} {pins : List (Addr × Obj)} {σ : L2.St} {H : Hp} {s : Shared} {d : Addr} {o : Obj} {kvs : List NP} (I : Inv X pins σ H s) (h : H d = some (.frz o (DNo d kvs))) :
    (d == sysModules) = false ∧ s.heap.get? d = some o ∧ o.ExactDict ∧ ∃ (es : Array DictEntry) (ep : Nat), o.data = .dict es ep ∧ es.size = kvs.length ∧
      ∀ (i : Nat) (x : NP), kvs[i]? = some x → ∃ (en : DictEntry), es[i]? = some en ∧ en.key = .ref x.2.1 := by
  obtain ⟨hd, ⟨P', w', z, hs, xs, pr, o', es, ep, ho, hx, hdt, he, _⟩, _⟩ := I.hok d _ h
  rw [hd] at ho
  cases ho
  refine ⟨hs, hd, hx, es, ep, hdt, ?_, fun i x e => ?_⟩
  · have l1 : es.size = xs.length := size_of_entries he
    have l2 : kvs.length = xs.length := Paired.length pr
    omega
  · obtain ⟨b, hb, e1, e2, _⟩ := paired_get pr e
    have q := entry_at he i
    rw [hb] at q
    exact ⟨_, q, by rw [e2]; rfl⟩
theorem turn_keysN {P : Program} {w : World} {K : PySem.W.Frag} {tg : Expr} {d : Addr} {o : Obj} {es : Array DictEntry} {ep : Nat} {kvs : List NP} (it : Addr) (hod : o.data = .dict es ep) : Turn P w K tg (Itn d o kvs) [it] it (fun i h => h.IsKeyIter it d i kvs.length ep) where
  mem := by simp
  obj := fun i h st b hb => by
    have e : b = it := by simpa using hb
    subst e
    obtain ⟨oi, e, c, dd⟩ := st
    exact ⟨oi, e, fun v z => by rw [dd] at z; cases z⟩
  keep := fun i h h' st k => st.at fun oi e => k it (by simp) oi e
  item := by
    intro X hP hw hK hc i pins s σ H E I hf st hg
    subst hP hw hK
    obtain ⟨hd, hi⟩ := hg
    obtain ⟨f0, f1, f2, f3, f4, f5⟩ := hf it (by simp)
    obtain ⟨hs, hgd, hx, es', ep', hdt, hsz, ent⟩ := Inv.frzN I hd
    obtain ⟨rfl, rfl⟩ := dict_ep hod hdt
    obtain ⟨x, hkv⟩ : ∃ p, kvs[i]? = some p := ⟨kvs[i], List.getElem?_eq_getElem hi⟩
    obtain ⟨en, hen, hkey⟩ := ent i x hkv
    refine next_key_item st hgd hdt hsz hen fun h' st' sb => ?_
    have I1 : Inv X pins σ H { s with heap := h' } := I.turned (t' := s.toks) (fun b ob hb e => (sb.2 b hb).trans e) f0 f1 f3 f4 f5
    obtain ⟨oi, e, c, dd⟩ := id st'
    exact ⟨en.key, rfl, go_of (s := { s with heap := h' }) e c dd (by decide) ⟨.ref x.2.1, H, I1, hkey, ⟨rfl, x, hkv, rfl⟩, st', fun b hb => (hf b hb).1⟩⟩
  done := by
    intro X hP hw hK hc i pins s σ H E I hf st hg
    subst hP hw hK
    obtain ⟨hd, hi⟩ := hg
    obtain ⟨f0, f1, f2, f3, f4, f5⟩ := hf it (by simp)
    obtain ⟨hs, hgd, hx, es', ep', hdt, hsz, ent⟩ := Inv.frzN I hd
    obtain ⟨rfl, rfl⟩ := dict_ep hod hdt
    exact next_key_end (I.ok.hd hc) st hgd hdt hsz hi fun h' eb => ⟨rfl, I.turned (t' := s.toks) (fun b ob hb e => eb b ob hb e) f0 f1 f3 f4 f5⟩
  self := fun A i s Q E st h => by
    refine wpAny_pyIter_slot st.typeIs F.slot_dict_keyiterator_iter (wpAny_call_entry F.slot_dict_keyiterator_iter st.typeIs F.entry_dict_keyiterator_iter ?_ (F.args_dict_keyiterator_iter_1 _))
    show wpAny _ _ (ret (.ref it)) _ _ s
    exact wpAny_pure ⟨_, rfl, "dict_keyiterator", _, st.typeIs, F.slot_dict_keyiterator_next.lookup, h⟩
def iKeysN (td : TE) : TI := fun σ H R => td σ H fun x H1 => ∃ d o kvs, x = .ref d ∧ H1 d = some (.frz o (DNo d kvs)) ∧ R (Itn d o kvs) H1
theorem pi_keysN {X : Cx} {tg e : Expr} {td : TE} (he : PE X e td) : PI X tg e (iKeysN td) := by
  refine ⟨fun pins s σ H R I h => ?_⟩
  refine thn (he.run pins s σ H _ I h) fun u s1 ⟨x, H1, I1, rx, d, o, kvs, ex, hd, q⟩ => ?_
  subst ex
  obtain rfl : u = Value.ref d := rx
  obtain ⟨hs, hgd, hx, es, ep, hdt, hsz, ent⟩ := Inv.frzN I1 hd
  refine iter_keys hs hgd hx hdt (pi_one (tk := s1.toks) I1 _ (turn_keysN _ hdt) ⟨_, Heap.get?_push_size _ rfl, rfl, ?_⟩ q)
  rw [hsz] <;> rfl
end UX

set_option Elab.async false
set_option linter.all false
set_option maxRecDepth 100000
set_option maxHeartbeats 4000000
set_option autoImplicit false
namespace UX
open PySem PySem.Spec PyProof.Rows L2 UY
open EL (Ex RB BOk Bn TK)
def idxN (k : NestedKey) : List U → Option Nat
  | [] => none
  | u :: us => if nkU u = some k then some 0 else (idxN k us).map (· + 1)
def ndN (ks : List U) : Bool := match nk8s ks with
  | some nks => decide nks.Nodup
  | none => false
def putNU (d k v : U) : Option U := match d with
  | .dcN ks us => if ks.length < sizeLine ∧ ndN ks = true then match nk8 k with
    | some key => match k with
      | .tup _ => match idxN key ks with
        | some j => some (.dcN ks (us.set j v))
        | none => some (.dcN (ks ++ [k]) (us ++ [v]))
      | _ => none
    | none => none else none
  | _ => none
def isTupU : U → Bool
  | .tup _ => true
  | _ => false
def keysN : U → Option (List U)
  | .dcN ks _ => if ks.all isTupU = true then some ks else none
  | _ => none
theorem keysN_inv {ks us us' : List U} (e : keysN (.dcN ks us) = some us') : us' = ks := by
  have e : (if ks.all isTupU = true then some ks else none) = some us' := e
  split at e
  · cases e; rfl
  · cases e
def noTs (ks : List U) : Prop := True
theorem nk8s_tup {ks : List U} {nks : List NestedKey} (_ : nk8s ks = some nks) : noTs ks := trivial
theorem nk8s_len : ∀ {ks : List U} {nks : List NestedKey}, nk8s ks = some nks → nks.length = ks.length
  | [], _, e => by cases e; rfl
  | u :: us, _, e => by
    obtain ⟨_, _, _, e2, rfl⟩ := nk8s_cons e
    simp [nk8s_len e2]
theorem nk8s_snoc {k : U} {key : NestedKey} (e : nk8 k = some key) : ∀ {ks : List U} {nks : List NestedKey}, nk8s ks = some nks → nk8s (ks ++ [k]) = some (nks ++ [key])
  | [], _, e1 => by cases e1; show nk8s [k] = _; rw [nk8s, e]; rfl
  | u :: us, _, e1 => by
    obtain ⟨_, _, h1, h2, rfl⟩ := nk8s_cons e1
    show nk8s (u :: (us ++ [k])) = _
    rw [nk8s, h1, nk8s_snoc e h2]; rfl
theorem zip_gh {G : Cxt} {rs : List Addr} {B : Bn} {H : Hp} {ks : List U} {vs : List V} (_ : noTs ks) : ∀ (_ : imAll G rs B ks vs H), ∀ p ∈ ks.zip vs, im G rs B p.1 p.2 H := by
  induction ks generalizing vs with
  | nil => intro _ p m; rw [List.zip_nil_left] at m; cases m
  | cons k ks ih =>
    rintro ⟨v, r, rfl, h1, h2⟩ p m
    rcases List.mem_cons.mp m with rfl | m
    · exact h1
    · exact ih trivial h2 p m
section
variable {F : Fr} {os : Os} {as : SA} {H : Hp}
end
section
variable {F : Fr} {δ : Dl} {td ty tx ta tb : TE} {wd wk wx wa wb : M U}
end
theorem idxN_mem {k : NestedKey} : ∀ {ks : List U} {kvs : List NP}, nk8s ks = some (kvs.map (·.1)) → (idxN k ks = none → (kvs.any fun x => decide (x.1 = k)) = false) ∧ ∀ (b : Addr) (v : V) (j : Nat), idxN k ks = some j → (kvs.map (·.1)).Nodup →
    (kvs.any fun x => decide (x.1 = k)) = true ∧ (kvs.map fun x => if x.1 = k then (x.1, x.2.1, v) else x).map (·.1) = kvs.map (·.1) ∧ nkA (kvs.map fun x => if x.1 = k then (x.1, x.2.1, v) else x) = nkA kvs ∧ nkV (kvs.map fun x => if x.1 = k then (x.1, x.2.1, v) else x) = (nkV kvs).set j v
  | [], [], _ => ⟨fun _ => rfl, fun _ _ j e => by cases e⟩
  | [], _ :: _, e => by cases e
  | u :: us, [], e => by obtain ⟨_, _, _, _, e3⟩ := nk8s_cons e; cases e3
  | u :: us, y :: kvs, e => by
    obtain ⟨k', ks', e1, e2, e3⟩ := nk8s_cons e
    cases e3
    have ih := idxN_mem (k := k) (ks := us) (kvs := kvs) e2
    have hu : nkU u = some y.1 := (nk8_ok e1).1
    unfold idxN
    by_cases c : y.1 = k
    · rw [if_pos (by rw [hu, c])]
      refine ⟨fun z => (nomatch z), fun b v j ej nd => ?_⟩
      cases ej
      have nd' := List.nodup_cons.mp (show (y.1 :: kvs.map (·.1)).Nodup from nd)
      have same : (kvs.map fun x => if x.1 = k then (x.1, x.2.1, v) else x) = kvs := by
        have : (kvs.map fun x => if x.1 = k then (x.1, x.2.1, v) else x) = kvs.map id := List.map_congr_left fun x m => if_neg fun z => nd'.1 (by rw [c, ← z]; exact List.mem_map_of_mem (f := (·.1)) m)
        rw [this, List.map_id]
      refine ⟨by simp [c], ?_, ?_, ?_⟩
      · rw [List.map_cons, same, if_pos c]; rfl
      · rw [List.map_cons, same, if_pos c]; rfl
      · rw [List.map_cons, same, if_pos c]; rfl
    · rw [if_neg (by rw [hu]; exact fun z => c (Option.some.inj z))]
      refine ⟨fun z => ?_, fun b v j ej nd => ?_⟩
      · have : idxN k us = none := by cases h : idxN k us with | none => rfl | some j => rw [h] at z; cases z
        simp [c, ih.1 this]
      · obtain ⟨j', ej', rfl⟩ := Option.map_eq_some_iff.mp ej
        have nd' := List.nodup_cons.mp (show (y.1 :: kvs.map (·.1)).Nodup from nd)
        obtain ⟨h1, h2, h3, h4⟩ := ih.2 b v j' ej' nd'.2
        refine ⟨by rw [List.any_cons, h1, Bool.or_true], ?_, ?_, ?_⟩
        · rw [List.map_cons, if_neg c, List.map_cons, h2]; rfl
        · unfold nkA at h3 ⊢; rw [List.map_cons, if_neg c, List.map_cons, h3]; rfl
        · unfold nkV at h4 ⊢; rw [List.map_cons, if_neg c, List.map_cons, h4]; rfl
section
variable {F : Fr} {S L : Type} {δ : Dl} {δn : S → Dl} {δl : L → Dl} {t2 : TS} {i : Nat}
theorem SDo.putN {os : Os} {as : SA} {st : Sto} {γ : List (U × V)} {σ : L2.St} {H : Hp} {d k x d' : U} {y v : V} (Q : SDo F os as st γ H σ δ) (hd : δ[i]? = some (some (.own (.dct .leaf) d))) (e : putNU d k x = some d') (pk : im F.G (rts as) (ban F os as) k y H) (px : im F.G (rts as) (ban F os as) x v H) :
    ∃ a H', σ[i]? = some (some (.ref a)) ∧ NPut H a y v H' ∧ SDo F os as st γ H' σ (δ.set i (some (.own (.dct .leaf) d'))) := by
  obtain ⟨v0, e0, A, m, o⟩ := Q.get hd
  cases d with
  | dcN ks us =>
    obtain ⟨a, kvs, e1, e2, e3, l, hk, hv⟩ := own_dcN.mp o
    subst e1 e2
    simp only [putNU] at e
    split at e
    · rename_i hl
      have ll := nk8s_len l
      rw [List.length_map] at ll
      have nd : (kvs.map (·.1)).Nodup := by
        have := hl.2
        unfold ndN at this
        rw [l] at this
        exact of_decide_eq_true this
      cases ek : nk8 k with
      | none => rw [ek] at e; cases e
      | some key =>
        rw [ek] at e
        simp only at e
        cases k with
        | tup kus =>
          simp only at e
          obtain ⟨b, ws, rfl, hb, hw⟩ := id pk
          have hB : NK H b key := NK.of ek pk
          have hK : NKs H kvs := NKs.of l hk
          have hz : kvs.length < sizeLine := by omega
          refine ⟨a, _, e0, ⟨kvs, key, b, e3, hK, rfl, hB, hz, rfl⟩, ?_⟩
          have hi := idxN_mem (k := key) l
          refine Q.redo m e0 e3 (fun _ z => nomatch z) (fun _ _ z => nomatch z) fun t => ?_
          cases ei : idxN key ks with
          | some j =>
            rw [ei] at e
            cases e
            obtain ⟨h1, h2, h3, h4⟩ := hi.2 b v j ei nd
            refine own_dcN.mpr ⟨a, UX.putN kvs key b v, rfl, rfl, upd_same, ?_, ?_, ?_⟩
            · unfold UX.putN; rw [if_pos h1, h2]; exact l
            · have ee : nkA (UX.putN kvs key b v) = nkA kvs := by unfold UX.putN; rw [if_pos h1, h3]
              rw [ee]; exact t hk
            · have ee : nkV (UX.putN kvs key b v) = (nkV kvs).set j v := by unfold UX.putN; rw [if_pos h1, h4]
              rw [ee]; exact t (imAll_set hv px)
          | none =>
            rw [ei] at e
            cases e
            have h1 := hi.1 ei
            have n1 : ¬ (kvs.any fun x => decide (x.1 = key)) = true := by rw [h1]; exact fun z => nomatch z
            refine own_dcN.mpr ⟨a, UX.putN kvs key b v, rfl, rfl, upd_same, ?_, ?_, ?_⟩
            · unfold UX.putN; rw [if_neg n1, List.map_append]; exact nk8s_snoc ek l
            · have ee : nkA (UX.putN kvs key b v) = nkA kvs ++ [.ref b] := by unfold UX.putN nkA; rw [if_neg n1, List.map_append]; rfl
              rw [ee]; exact t (imAll_snoc hk pk)
            · have ee : nkV (UX.putN kvs key b v) = nkV kvs ++ [v] := by unfold UX.putN nkV; rw [if_neg n1, List.map_append]; rfl
              rw [ee]; exact t (imAll_snoc hv px)
        | _ => cases e
    · cases e
  | _ => cases e
theorem blk_nput {tv ty : TE} {wv wk : M U} {d : U} {k : U → M (Out S L)} (hd : δ[i]? = some (some (.own (.dct .leaf) d))) (hv : EvW F tv δ wv) (hk : EvW F ty δ wk) (h2 : ∀ u, Blk F t2 (δ.set i (some (.own (.dct .leaf) u))) (k u) δn δl) :
    Blk F (tSeq (sNPut (tVar i) ty tv) t2) δ (.bind wv fun x => .bind wk fun y => .bind (.o (putNU d y x)) k) δn δl := fun D os as st γ σ H o st' Q q P => by
  obtain ⟨x, st1, q1, q2⟩ := M.bind_inv q
  obtain ⟨y, st2, q3, q4⟩ := M.bind_inv q2
  obtain ⟨d', st3, q5, q6⟩ := M.bind_inv q4
  obtain ⟨e, rfl⟩ := M.o_inv q5
  clear q q2 q4 q5
  refine hv os as st γ σ H x _ Q q1 _ fun v H1 as1 g1 S1 px => ?_
  have S1' : SDo F os as1 st1 ([(x, v)] ++ γ) H1 σ δ := S1.ghost fun z m => by rw [List.mem_singleton] at m; rw [m]; exact px
  obtain ⟨v0, e0, _⟩ := S1.get hd
  refine ⟨v0, e0, hk os as1 st1 _ σ H1 y _ S1' q3 _ fun kv H2 as2 g2 S2 pk => ?_⟩
  obtain ⟨a, H', ea, hp, S3⟩ := S2.putN hd e pk (S2.gh (x, v) List.mem_cons_self)
  rw [ea] at e0
  cases e0
  exact ⟨a, H', rfl, hp, h2 d' D os as2 _ γ σ H' o st' (S3.unghost (g := [(x, v)])) q6 P⟩
theorem en_dN : EvN F (.dct .leaf) tNNew δ (.ret (.dcN [] [])) := fun os as st γ σ H c st' S q QQ k => by
  cases q
  intro p hp
  refine k (.ref p) _ as [p] (Go.of_ex (Ex.new hp)) (fun j hj => S.grow hj hp (Ex.new hp) (by rw [upd_same]; exact fun z => nomatch z)) ?_ fun a m => by rw [List.mem_singleton] at m; rw [m]; exact hp
  exact own_dcN.mpr ⟨p, [], rfl, rfl, upd_same, rfl, rfl, rfl⟩
end
def n1C (p : Addr) (Q : VK) : List (V × V) → Hp → Prop
  | [(y, v)], H2 => H2 p = some (DNo p []) ∧ ∃ k b, y = .ref b ∧ NK H2 b k ∧ Q (.ref p) (upd H2 p (DNo p [(k, b, v)]))
  | _, _ => False
def tDisp1N (tk tv : TE) : TE := fun σ H Q => ∀ p, H p = none → tk σ (upd H p (DNo p [])) fun y H1 => tv σ H1 fun v H2 => n1C p Q [(y, v)] H2
theorem pe_disp1N {X : Cx} {pos : Pos} {k v : Expr} {tk tv : TE} (hu : X.A.units + 66 < cLine) (hk : PE X k tk) (hv : PE X v tv) : PE X (.Dict [some k] [v] pos) (tDisp1N tk tv) := by
  refine ⟨fun pins s σ H Q I q => ?_⟩
  have hn := I.hok.fresh (Nat.le_refl s.heap.objs.size)
  have I1 := I.laid (a := s.heap.objs.size) (o := DNo s.heap.objs.size []) (h' := s.heap.push { cls := .type "dict", data := .dict #[] }) (t' := s.toks) (fun _ _ q => Heap.get?_push_of_some _ q) (Nat.le_refl _) (dn_empty s.heap I.big)
  have P : PPs X pos [some k] [v] [(tk, tv)] := pps_cons hk hv pps_nil
  refine wpAny_Dict_any rfl rfl (List.cons_ne_nil _ _) (by show 1 ≤ 15; omega) (thn (P.run pins _ σ _ (n1C s.heap.objs.size Q) I1 (q _ hn)) fun ws s2 ⟨ps, H2, I2, rel, q2⟩ => ?_)
  match ps, rel, q2 with
  | [(y, w)], .cons (b := (kv, wv)) hr .nil, ⟨e, key, b, ey, eb, q2⟩ => ?_
  subst ey
  cases (show kv = Value.ref b from hr.1)
  obtain ⟨z, hd, xs, r0, dd⟩ := dn_rd I2.hok (.inl e) (fun _ m => nomatch m)
  cases r0
  unfold storeAll
  rw [List.forIn_cons]
  refine wpAny_bind (wpAny_bind (wpAny_dictSet_heap (knd := nestedKind X.prog X.w) (hsz := Nat.zero_le _) (by show X.A.units + 8 < cLine; omega) ⟨eb.2.2 _ _ _ I2.hok, eb.2.1⟩ dd fun h' dd' hs => wpAny_pure ?_))
  dsimp only
  rw [List.forIn_nil]
  refine wpAny_pure ⟨.ref s.heap.objs.size, _, ?_, rfl, q2⟩
  have rel1 : NKV [(key, b, w)] (storedH [] key b wv) := by
    have := NKV.put (kvs := []) (xs := []) .nil key (b := b) hr.2
    exact this
  exact d_write I2 (by rw [e]; exact True.intro) hs (let ⟨q, _, _, hq, _⟩ := dd'; ⟨q, hq⟩) (dn_ok (by decide : 1 ≤ sizeLine) hd rel1 dd')
def disp1NU (k v : U) : Option U := match nk8 k with
  | some _ => match k with
    | .tup _ => some (.dcN [k] [v])
    | _ => none
  | none => none
section
variable {F : Fr} {δ : Dl}
theorem en_disp1N {tk tv : TE} {wk wv : M U} (hk : EvW F tk δ wk) (hv : EvW F tv δ wv) : EvN F (.dct .leaf) (tDisp1N tk tv) δ (.bind wk fun k => .bind wv fun v => .o (disp1NU k v)) := fun os as st γ σ H c st' S q QQ kk => by
  obtain ⟨k, st1, q1, q2⟩ := M.bind_inv q
  obtain ⟨v, st2, q3, q4⟩ := M.bind_inv q2
  obtain ⟨e, rfl⟩ := M.o_inv q4
  clear q q2 q4
  unfold disp1NU at e
  cases ek : nk8 k with
  | none => rw [ek] at e; cases e
  | some key =>
  rw [ek] at e
  cases k with
  | tup kus => ?_
  | _ => cases e
  cases e
  intro p hp
  obtain ⟨k1, hk1, hl1⟩ := nodup_fresh (os.map (·.1)) δ.length
  have S1 : SDo F ((k1, [p]) :: os) as st γ (upd H p (DNo p [])) σ δ := S.grow hk1 hp (Ex.new hp) (by rw [upd_same]; exact fun z => nomatch z)
  refine hk _ as st γ σ _ _ _ S1 q1 _ fun y H1 as1 g1 T1 py => ?_
  have T1' := T1.ghost (g := [(U.tup kus, y)]) fun z m => by rw [List.mem_singleton] at m; rw [m]; exact py
  refine hv _ as1 st1 _ σ H1 v _ T1' q3 _ fun w H2 as2 g2 T2 pw => ?_
  have g12 := g1.trans g2
  have hp2 : H2 p = some (DNo p []) := g12.rb.keep p _ (fun m => (List.nodup_append.mp S1.nd).2.2 p (List.mem_append_left _ List.mem_cons_self) p m rfl) upd_same
  have pk := T2.gh (U.tup kus, y) List.mem_cons_self
  obtain ⟨b, ws, eb, hb, hw⟩ := id pk
  have eb : y = .ref b := eb
  subst eb
  refine ⟨hp2, key, b, rfl, NK.of ek pk, ?_⟩
  have m1 : (k1, [p]) ∈ (k1, [p]) :: os := List.mem_cons_self
  have c : Chg F ((k1, [p]) :: os) as2 H2 (upd H2 p (DNo p [(key, b, w)])) k1 [p] [p] p := chg_same m1 List.mem_cons_self T2 hp2 (fun _ z => nomatch z) (fun _ _ z => nomatch z)
  have so := setOs_same T2.ix m1
  have T3 := T2.mut c (x := none) fun s es => by cases es
  rw [so, List.set_eq_of_length_le hl1] at T3
  have T3 := T3.unghost (g := [(U.tup kus, V.ref b)])
  refine kk (.ref p) _ as2 [p] (go_put hp g12 hp2 (fun _ z => nomatch z) (fun _ _ z => nomatch z)) (fun k' hk' => T3.reix hl1 hk') ?_ fun a m => by rw [List.mem_singleton] at m; rw [m]; exact hp
  have pw2 := c.im pw
  have pk2 := c.im pk
  rw [so] at pw2 pk2
  refine own_dcN.mpr ⟨p, [(key, b, w)], rfl, rfl, upd_same, ?_, ?_, ?_⟩
  · rw [nk8s, ek]; rfl
  · exact ⟨_, [], rfl, im_banG (fun a => by rw [ban_cons, ban_cons]) pk2, rfl⟩
  · exact ⟨_, [], rfl, im_banG (fun a => by rw [ban_cons, ban_cons]) pw2, rfl⟩
end
def keysNW (w : M U) : M (List U) := .bind w fun u => .o (keysN u)
section
variable {F : Fr} {δ : Dl} {wi : TI} {g : TG} {tt : TT} {te : TE} {vs : List Nat} {wl : M (List U)}
theorem zip_get {ks : List U} {kvs : List NP} {i : Nat} {u : U} {x : NP} (h1 : ks[i]? = some u) (h2 : kvs[i]? = some x) : (u, V.ref x.2.1) ∈ ks.zip (nkA kvs) := by
  refine List.mem_of_getElem? (i := i) ?_
  rw [List.getElem?_zip_eq_some]
  exact ⟨h1, by unfold nkA; rw [List.getElem?_map, h2]; rfl⟩
theorem walkN {d : Addr} {od : Obj} {kvs : List NP} {us : List U} (h0 : F.H0 d = some (.frz od (DNo d kvs))) (hl : (nkA kvs).length = us.length) : WalkU F (Itn d od kvs) us (us.zip (nkA kvs)) := by
  have hl' : kvs.length = us.length := by rw [← hl]; unfold nkA; rw [List.length_map]
  refine ⟨fun i os as st γ σ δ H hi S2 => ?_, fun os as st γ σ δ H S2 => ?_, fun i os as st γ σ δ x H H2 u e S2 y => ?_⟩
  · exact ⟨S2.rel.rb.frz _ _ _ h0, by omega⟩
  · exact ⟨S2.rel.rb.frz _ _ _ h0, by omega⟩
  · obtain ⟨rfl, z, ek, rfl⟩ := y
    exact ⟨Ex.refl _, S2.gh _ (List.mem_append_left _ (zip_get e ek))⟩
theorem en_lcKX {i : Nat} {u : U} {wt : U → M Bool} {we : U → M U} (hi : δ[i]? = some (some (.im u))) (no : noOwn δ vs = true)
    (hb : ∀ (B : Bn) (H0 : Hp) (as0 : SA) u st r, wt u st = some r → ∃ δ', TgOk ⟨F.G, B, H0, as0, noR⟩ g vs (wipD δ vs) u δ' ∧ EvT ⟨F.G, B, H0, as0, noR⟩ tt δ' (wt u) ∧ EvW ⟨F.G, B, H0, as0, noR⟩ te δ' (we u)) :
    EvN F (.lst .leaf) (tOrE (tLockE (tLc (iKeysN (tVar i)) g tt te vs)) (tLc (iKeysN (tVar i)) g tt te vs)) δ (lcW (keysNW (.ret u)) wt we) := fun os as st γ σ H c st' S q QQ k => by
  obtain ⟨v, e0, pv⟩ := S.get hi
  -- the source, within
  have src : ∀ {H1 : Hp} {d : Addr} {od : Obj} {u0 : HO} (us : List U) (st1 : Sto), v = .ref d → H1 d = some (.frz od u0) → d ∉ flo os → keysNW (.ret u) st = some (.ok us, st1) → SDo (inF F os H1 as) os as st γ H1 σ δ → (∃ kvs ks, u0 = DNo d kvs ∧ keysN u = some ks ∧ imAll F.G (rts as) (ban F os as) ks (nkA kvs) H1 ∧ noTs ks) →
      ∀ Q : It → Hp → Prop, (∀ J H' as' gh, Go as as' H1 H' → SDo (inF F os H1 as) os as' st1 (gh ++ (ghv σ δ vs ++ γ)) H' σ δ → WalkU (inF F os H1 as) J us gh → Q J H') → iKeysN (tVar i) σ H1 Q := fun {H1 d od u0} us st1 ev hd nd qk S1 hu Q kk => by
    obtain ⟨u1, st2, qa, qb⟩ := M.bind_inv qk
    cases qa
    obtain ⟨ek, rfl⟩ := M.o_inv qb
    have h0 : (inF F os H1 as).H0 d = some (.frz od u0) := by
      unfold inF
      simp only
      rw [if_neg nd]
      exact hd
    obtain ⟨kvs, ks, rfl, ek2, hv, nt⟩ := hu
    rw [ek] at ek2
    cases ek2
    refine ⟨v, e0, d, od, kvs, ev, hd, ?_⟩
    exact kk _ H1 as _ (Go.refl _ _) ((S1.ghost (ghv_ok S1 vs)).ghost (zip_gh nt hv)) (walkN h0 (imAll_len hv))
  have isd : ∃ d u0, v = .ref d ∧ ¬ ban F os as d ∧ Rd H d u0 ∧ IsDO u0 ∧ (∃ kvs ks, u0 = DNo d kvs ∧ keysN u = some ks ∧ imAll F.G (rts as) (ban F os as) ks (nkA kvs) H ∧ noTs ks) := by
    obtain ⟨us, st2, qs, _⟩ := M.bind_inv q
    obtain ⟨u1, st3, qa, qb⟩ := M.bind_inv qs
    cases qa
    obtain ⟨ek, _⟩ := M.o_inv qb
    have HK : keysN u = some us := ek
    cases u <;> first | (cases ek; done) | skip
    rename_i ks xs
    cases keysN_inv ek
    obtain ⟨d, kvs, e1, nb, hr, hl, hk, hv⟩ := pv
    exact ⟨d, _, e1, nb, hr, trivial, kvs, _, rfl, HK, hk, nk8s_tup hl⟩
  obtain ⟨d, u0, ev, nb, hr, hd, hu⟩ := isd
  have nd : d ∉ flo os := fun z => nb (.inr (.inl z))
  have nf : d ∉ fl as := fun z => nb (.inr (.inr z))
  rcases hr with hr | ⟨od, hr⟩
  · left
    refine ⟨d, u0, hr, by cases u0 <;> first | trivial | exact hd.elim, fun od => ?_⟩
    have al : ∀ a, H a ≠ none → upd H d (.frz od u0) a ≠ none := fun a n => by
      by_cases z : a = d
      · rw [z, upd_same]; exact fun z => nomatch z
      · rw [upd_ne z]; exact n
    have hn : ∀ a, upd H d (.frz od u0) a = none → H a = none := fun a n => by
      by_cases z : a = d
      · rw [z, upd_same] at n; cases n
      · rwa [upd_ne z] at n
    have S1 := S.within (fun B => kd_lock (od := od) hr hd) (fun a m => upd_ne fun z => by subst z; exact m.elim nd nf) al
    refine lc_at no S1 (fun us st1 qk => src us st1 ev upd_same nd qk S1 (hu.imp fun _ z => z.imp fun _ z => ⟨z.1, z.2.1, imAll_kd (kd_lock hr hd) _ _ z.2.2.1, z.2.2.2⟩)) (fun u st r e => hb _ _ _ u st r e) q fun w H' as' A g1 S2 o n => ?_
    have fd : H' d = some (.frz od u0) := g1.rb.frz _ _ _ upd_same
    have nfl : d ∉ fl as' := fun m => by
      rcases g1.new d m with z | z
      · exact nf z
      · rw [upd_same] at z; cases z
    have al2 : ∀ a, H' a ≠ none → upd H' d u0 a ≠ none := fun a n => by
      by_cases z : a = d
      · rw [z, upd_same]; exact fun z => nomatch z
      · rw [upd_ne z]; exact n
    have ne : ∀ {a : Addr} {o : HO}, H a = some o → a ≠ d → upd H d (.frz od u0) a = some o := fun {a o} h z => by rw [upd_ne z]; exact h
    have g2 : Go as as' H (upd H' d u0) := by
      refine ⟨⟨fun a o n e => ?_, fun a xs e => ?_, fun a x z e => ?_, fun a m n => ?_⟩, g1.pre, fun a m => (g1.new a m).imp id (hn a)⟩
      · by_cases z : a = d
        · subst z; rw [hr] at e; cases e; exact upd_same
        · rw [upd_ne z]; exact g1.rb.keep a o n (ne e z)
      · have z : a ≠ d := fun z => by subst z; rw [hr] at e; cases e; exact hd
        rw [upd_ne z]; exact g1.rb.tup a xs (ne e z)
      · have z : a ≠ d := fun z => by subst z; rw [hr] at e; cases e; exact hd
        rw [upd_ne z]; exact g1.rb.frz a _ _ (ne e z)
      · exact al2 a (g1.alive (al a n))
    have dA : d ∉ A := fun m => by have := n d m; rw [upd_same] at this; cases this
    refine ⟨fd, k w _ as' A g2 (fun j hj => ?_) ?_ fun a m => hn a (n a m)⟩
    · refine S.without (H1 := upd H d (.frz od u0)) hn (S2 j hj) g2 (fun B => kd_unlock fd hd) (fun a m => upd_ne fun z => ?_) al2
      subst z
      rcases m with m | m
      · rcases List.mem_append.mp (show a ∈ A ++ flo os from m) with m | m
        · exact dA m
        · exact nd m
      · exact nfl m
    · exact own_mono (fun u v h => im_kd (kd_unlock fd hd) u v h) (fun a xs h => (kd_unlock (B := noB) fd hd).tup a xs h) _ _ _ A (fun a m => upd_ne fun z => dA (z ▸ m)) o
  · right
    have S1 := S.within (H' := H) (fun B => kd_of (RB.refl H)) (fun a _ => rfl) (fun a n => n)
    refine lc_at no S1 (fun us st1 qk => src us st1 ev hr nd qk S1 hu) (fun u st r e => hb _ _ _ u st r e) q fun w H' as' A g1 S2 o n => ?_
    exact k w H' as' A g1 (fun j hj => S.without (H1 := H) (fun _ z => z) (S2 j hj) g1 (fun B => kd_of (RB.refl H')) (fun a _ => rfl) (fun a n => n)) o n
end
section
variable {F : Fr} {S L : Type} {δ : Dl} {wi : TI} {g : TG} {tb : TS} {wl : M (List U)} {δl : S → Dl} {δ2 : L → Dl}
theorem blk_forKX (dr vs : List Nat) (δl : S → Dl) {i : Nat} {u : U} {f : U → S → M (Out S S)} {s0 : S} (h0 : wipD δ dr = δl s0) (hi : δ[i]? = some (some (.im u)))
    (hb : ∀ (B : Bn) (H0 : Hp) (as0 : SA) s u st r, f u s st = some r → ∃ δ', TgOk ⟨F.G, B, H0, as0, noR⟩ g vs (δl s) u δ' ∧ Blk ⟨F.G, B, H0, as0, noR⟩ tb δ' (f u s) δl δl) :
    Blk F (tOrS (tLock (tFor (iKeysN (tVar i)) g tb)) (tFor (iKeysN (tVar i)) g tb)) δ (noRt (.bind (keysNW (.ret u)) fun us => forO f us s0)) δl δ2 := fun D os as st γ σ H o st' S q P => by
  obtain ⟨o1, st1, q1, q⟩ := M.bind_inv q
  cases o1 with
  | nx s1 => ?_
  | _ => cases q
  cases q
  obtain ⟨v, e0, pv⟩ := S.get hi
  have src : ∀ {H1 : Hp} {d : Addr} {od : Obj} {u0 : HO} (us : List U) (st1 : Sto), v = .ref d → H1 d = some (.frz od u0) → d ∉ flo os → keysNW (.ret u) st = some (.ok us, st1) → SDo (inF F os H1 as) os as st γ H1 σ δ → (∃ kvs ks, u0 = DNo d kvs ∧ keysN u = some ks ∧ imAll F.G (rts as) (ban F os as) ks (nkA kvs) H1 ∧ noTs ks) →
      ∀ Q : It → Hp → Prop, (∀ J H' as' gh, Go as as' H1 H' → SDo (inF F os H1 as) os as' st1 (gh ++ γ) H' σ δ → WalkU (inF F os H1 as) J us gh → Q J H') → iKeysN (tVar i) σ H1 Q := fun {H1 d od u0} us st1 ev hd nd qk S1 hu Q kk => by
    obtain ⟨u1, st2, qa, qb⟩ := M.bind_inv qk
    cases qa
    obtain ⟨ek, rfl⟩ := M.o_inv qb
    have h0 : (inF F os H1 as).H0 d = some (.frz od u0) := by
      unfold inF
      simp only
      rw [if_neg nd]
      exact hd
    obtain ⟨kvs, ks, rfl, ek2, hv, nt⟩ := hu
    rw [ek] at ek2
    cases ek2
    refine ⟨v, e0, d, od, kvs, ev, hd, ?_⟩
    exact kk _ H1 as _ (Go.refl _ _) (S1.ghost (zip_gh nt hv)) (walkN h0 (imAll_len hv))
  have isd : ∃ d u0, v = .ref d ∧ ¬ ban F os as d ∧ Rd H d u0 ∧ IsDO u0 ∧ (∃ kvs ks, u0 = DNo d kvs ∧ keysN u = some ks ∧ imAll F.G (rts as) (ban F os as) ks (nkA kvs) H ∧ noTs ks) := by
    obtain ⟨us, st2, qs, _⟩ := M.bind_inv q1
    obtain ⟨u1, st3, qa, qb⟩ := M.bind_inv qs
    cases qa
    obtain ⟨ek, _⟩ := M.o_inv qb
    have HK : keysN u = some us := ek
    cases u <;> first | (cases ek; done) | skip
    rename_i ks xs
    cases keysN_inv ek
    obtain ⟨d, kvs, e1, nb, hr, hl, hk, hv⟩ := pv
    exact ⟨d, _, e1, nb, hr, trivial, kvs, _, rfl, HK, hk, nk8s_tup hl⟩
  obtain ⟨d, u0, ev, nb, hr, hd, hu⟩ := isd
  have nd : d ∉ flo os := fun z => nb (.inr (.inl z))
  have nf : d ∉ fl as := fun z => nb (.inr (.inr z))
  rcases hr with hr | ⟨od, hr⟩
  · left
    refine ⟨d, u0, hr, by cases u0 <;> first | trivial | exact hd.elim, fun od => ?_⟩
    have al : ∀ a, H a ≠ none → upd H d (.frz od u0) a ≠ none := fun a n => by
      by_cases z : a = d
      · rw [z, upd_same]; exact fun z => nomatch z
      · rw [upd_ne z]; exact n
    have hn : ∀ a, upd H d (.frz od u0) a = none → H a = none := fun a n => by
      by_cases z : a = d
      · rw [z, upd_same] at n; cases n
      · rwa [upd_ne z] at n
    have S1 := S.within (fun B => kd_lock (od := od) hr hd) (fun a m => upd_ne fun z => by subst z; exact m.elim nd nf) al
    refine for_at (L := L) (δ2 := δ2) S1 (fun us st1 qk => src us st1 ev upd_same nd qk S1 (hu.imp fun _ z => z.imp fun _ z => ⟨z.1, z.2.1, imAll_kd (kd_lock hr hd) _ _ z.2.2.1, z.2.2.2⟩)) (h0 ▸ weak_wip δ dr) (fun u s st r e => hb _ _ _ s u st r e) q1 fun os' as' σ' H' S2 => ?_
    have hd1 : (inF F os (upd H d (.frz od u0)) as).H0 d = some (.frz od u0) := by
      unfold inF
      simp only
      rw [if_neg nd]
      exact upd_same
    have fd : H' d = some (.frz od u0) := S2.rel.rb.frz _ _ _ hd1
    have nfo : d ∉ flo os' := fun m => by have := S2.new d m; rw [hd1] at this; cases this
    have nfl : d ∉ fl as' := fun m => by
      rcases S2.rel.new d m with z | z
      · exact nf z
      · rw [hd1] at z; cases z
    have al2 : ∀ a, H' a ≠ none → upd H' d u0 a ≠ none := fun a n => by
      by_cases z : a = d
      · rw [z, upd_same]; exact fun z => nomatch z
      · rw [upd_ne z]; exact n
    have to1 : ∀ {a : Addr} {o : HO}, (inF F os H as).H0 a = some o → a ≠ d → (inF F os (upd H d (.frz od u0)) as).H0 a = some o := fun {a o} e z => by
      obtain ⟨n, h⟩ := inF_some e
      unfold inF
      simp only
      rw [if_neg n, upd_ne z]
      exact h
    have g2 : Go as as' (inF F os H as).H0 (upd H' d u0) := by
      refine ⟨⟨fun a o n e => ?_, fun a xs e => ?_, fun a x z e => ?_, fun a m n => ?_⟩, S2.rel.pre, fun a m => (S2.rel.new a m).imp id fun z => ?_⟩
      · by_cases z : a = d
        · subst z; have := (inF_some e).2; rw [hr] at this; cases this; exact upd_same
        · rw [upd_ne z]; exact S2.rel.rb.keep a o n (to1 e z)
      · have z : a ≠ d := fun z => by subst z; have := (inF_some e).2; rw [hr] at this; cases this; exact hd
        rw [upd_ne z]; exact S2.rel.rb.tup a xs (to1 e z)
      · have z : a ≠ d := fun z => by subst z; have := (inF_some e).2; rw [hr] at this; cases this; exact hd
        rw [upd_ne z]; exact S2.rel.rb.frz a _ _ (to1 e z)
      · refine al2 a (S2.rel.alive ?_)
        by_cases z : a = d
        · rw [z, hd1]; exact fun z => nomatch z
        · cases e : (inF F os H as).H0 a with
          | none => exact absurd e n
          | some o => rw [to1 e z]; exact fun z => nomatch z
      · rcases inF_none z with z | z
        · unfold inF
          simp only
          rw [if_pos z]
        · cases e : (inF F os H as).H0 a with
          | none => rfl
          | some o => have := (inF_some e).2; rw [hn a z] at this; cases this
    exact ⟨fd, P os' as' σ' _ (S.without2 (H1 := upd H d (.frz od u0)) hn S2 g2 (fun B => kd_unlock fd hd) (fun a m => upd_ne fun z => by subst z; exact m.elim nfo nfl) al2)⟩
  · right
    have S1 := S.within (H' := H) (fun B => kd_of (RB.refl H)) (fun a _ => rfl) (fun a n => n)
    refine for_at (L := L) (δ2 := δ2) S1 (fun us st1 qk => src us st1 ev hr nd qk S1 hu) (h0 ▸ weak_wip δ dr) (fun u s st r e => hb _ _ _ s u st r e) q1 fun os' as' σ' H' S2 => ?_
    exact P os' as' σ' _ (S.without2 (H1 := H) (fun _ z => z) S2 S2.rel (fun B => kd_of (RB.refl H')) (fun a _ => rfl) (fun a n => n))
end
end UX

set_option Elab.async false
set_option linter.all false
set_option maxRecDepth 100000
set_option maxHeartbeats 4000000
set_option autoImplicit false
namespace UX
open PySem PySem.Spec PyProof.Rows L2 UY
open EL (Ex RB BOk Bn TK)
def un22 {α : Type} (u : U) (k : U → U → U → U → M α) : M α := match u with
  | .tup [.tup [a, b], .tup [c, d]] => k a b c d
  | _ => .fail
def un21 {α : Type} (u : U) (k : U → U → U → M α) : M α := match u with
  | .tup [.tup [a, b], c] => k a b c
  | _ => .fail
section
variable {F : Fr} {δ : Dl} {i j l m : Nat} {vs : List Nat}
abbrev gNest22 (K : PySem.W.Frag) (i j l m : Nat) : TG := gTup K 2 (gCons (gTup K 2 (gCons (gName i) (gCons (gName j) gNil))) (gCons (gTup K 2 (gCons (gName l) (gCons (gName m) gNil))) gNil))
theorem tg_nest22 {a b c d : U} (hi : i ∈ vs) (hj : j ∈ vs) (hl : l ∈ vs) (hm : m ∈ vs) : TgOk F (gNest22 F.G.K i j l m) vs δ (.tup [.tup [a, b], .tup [c, d]]) ((((δ.set i (some (.im a))).set j (some (.im b))).set l (some (.im c))).set m (some (.im d))) := ⟨by rw [wipD_set _ _ _ _ hm, wipD_set _ _ _ _ hl, wipD_set _ _ _ _ hj, wipD_set _ _ _ _ hi], fun os as st γ H σ v S ⟨p, xs, e, hs, v1, r1, e1, h1, v2, r2, e2, h2, e3⟩ Q k => by
  subst e e1 e2; cases (show r2 = [] from e3)
  obtain ⟨p2, ys, f, gs, w1, s1, f1, g1, w2, s2, f2, g2, f3⟩ := h2
  subst f f1 f2; cases (show s2 = [] from f3)
  obtain ⟨p3, ys3, f', gs', w1', s1', f1', g1', w2', s2', f2', g2', f3'⟩ := h1
  subst f' f1' f2'; cases (show s2' = [] from f3')
  exact ⟨p, _, rfl, EL.sqT_of hs, rfl, _, _, rfl, ⟨p3, _, rfl, EL.sqT_of gs', rfl, w1', _, rfl, w2', _, rfl, rfl, _, _, rfl, p2, _, rfl, EL.sqT_of gs, rfl, w1, _, rfl, w2, _, rfl, rfl, rfl, k _ (by rw [wipe_set _ _ _ _ hm, wipe_set _ _ _ _ hl, wipe_set _ _ _ _ hj, wipe_set _ _ _ _ hi]) ((((S.set (x := .im a) g1').set (x := .im b) g2').set (x := .im c) g1).set (x := .im d) g2)⟩⟩⟩
theorem un22_inv {α : Type} {u : U} {k : U → U → U → U → M α} {st : Sto} {r : Res α × Sto} (h : un22 u k st = some r) : ∃ a b c d, u = .tup [.tup [a, b], .tup [c, d]] := by
  unfold un22 at h
  split at h
  · exact ⟨_, _, _, _, rfl⟩
  · cases h
theorem pat22 {α : Type} {P : Dl → M α → Prop} (hi : i ∈ vs) (hj : j ∈ vs) (hl : l ∈ vs) (hm : m ∈ vs) {k : U → U → U → U → M α} (h : ∀ a b c d, P ((((δ.set i (some (.im a))).set j (some (.im b))).set l (some (.im c))).set m (some (.im d))) (k a b c d)) :
    ∀ u st r, un22 u k st = some r → ∃ δ', TgOk F (gNest22 F.G.K i j l m) vs δ u δ' ∧ P δ' (un22 u k) := fun u st r e => by
  obtain ⟨a, b, c, d, rfl⟩ := un22_inv e
  exact ⟨_, tg_nest22 hi hj hl hm, h a b c d⟩
end
end UX

set_option Elab.async false
set_option linter.all false
set_option maxRecDepth 100000
set_option maxHeartbeats 4000000
set_option autoImplicit false
namespace UX
open PySem PySem.Spec
def Wp {α : Type} (w : M α) (st : Sto) (Q : α → Sto → Prop) : Prop := ∃ a st', w st = some (.ok a, st') ∧ Q a st'
section
variable {α β S S' L : Type} {w : M α} {st : Sto} {Q Q' : α → Sto → Prop}
theorem Wp.mono (h : Wp w st Q) (k : ∀ a s, Q a s → Q' a s) : Wp w st Q' := by
  obtain ⟨a, s, e, q⟩ := h
  exact ⟨a, s, e, k a s q⟩
theorem Wp.ret {a : α} (h : Q a st) : Wp (.ret a) st Q := ⟨a, st, rfl, h⟩
theorem Wp.bind {f : β → M α} {v : M β} (h : Wp v st fun a s => Wp (f a) s Q) : Wp (.bind v f) st Q := by
  obtain ⟨a, s, e, b, s', e', q⟩ := h
  exact ⟨b, s', by rw [M.bind_of e]; exact e', q⟩
theorem Wp.o {x : Option α} {a : α} (e : x = some a) (h : Q a st) : Wp (.o x) st Q := by subst e; exact Wp.ret h
theorem Wp.eq {a : α} {s : Sto} (e : w st = some (.ok a, s)) (h : Q a s) : Wp w st Q := ⟨a, s, e, h⟩
end
section
variable {S S' L : Type} {st : Sto} {Q : U → Sto → Prop} {QT : Bool → Sto → Prop} {QA : List U → Sto → Prop}
theorem Wp.op1 {f : U → Option U} {wa : M U} (h : Wp wa st fun a s => ∃ c, f a = some c ∧ Q c s) : Wp (op1 f wa) st Q := .bind (h.mono fun _ _ ⟨_, e, q⟩ => .o e q)
theorem Wp.op2 {f : U → U → Option U} {wa wb : M U} (h : Wp wa st fun a s => Wp wb s fun b s => ∃ c, f a b = some c ∧ Q c s) : Wp (op2 f wa wb) st Q := .bind (h.mono fun _ _ h => .bind (h.mono fun _ _ ⟨_, e, q⟩ => .o e q))
theorem Wp.test {wa : M U} (h : Wp wa st fun a s => ∃ b, a = .bl b ∧ QT b s) : Wp (testW wa) st QT := .bind (h.mono fun _ _ ⟨_, e, q⟩ => .o (by rw [e]; rfl) q)
theorem Wp.not {w : M Bool} (h : Wp w st fun b s => QT (!b) s) : Wp (notT w) st QT := .bind (h.mono fun _ _ q => .ret q)
theorem Wp.and {w w' : M Bool} (h : Wp w st fun b s => if b = true then Wp w' s QT else QT false s) : Wp (andT w w') st QT := .bind (h.mono fun b _ q => by
  cases b
  · exact .ret q
  · exact q)
theorem Wp.or {w w' : M Bool} (h : Wp w st fun b s => if b = true then QT true s else Wp w' s QT) : Wp (orT w w') st QT := .bind (h.mono fun b _ q => by
  cases b
  · exact q
  · exact .ret q)
theorem Wp.andW {w w' : M U} (h : Wp (testW w) st fun b s => if b = true then Wp w' s Q else Q (.bl false) s) : Wp (andW w w') st Q := .bind (h.mono fun b _ q => by
  cases b
  · exact .ret q
  · exact q)
theorem Wp.orW {w w' : M U} (h : Wp (testW w) st fun b s => if b = true then Q (.bl true) s else Wp w' s Q) : Wp (orW w w') st Q := .bind (h.mono fun b _ q => by
  cases b
  · exact q
  · exact .ret q)
theorem Wp.ite {α : Type} {Q : α → Sto → Prop} {c : M Bool} {w w' : M α} (h : Wp c st fun b s => if b = true then Wp w s Q else Wp w' s Q) : Wp (iteW c w w') st Q := .bind (h.mono fun b _ q => by
  cases b
  · exact q
  · exact q)
theorem Wp.consA {wa : M U} {wr : M (List U)} (h : Wp wa st fun a s => Wp wr s fun r s => QA (a :: r) s) : Wp (consA wa wr) st QA := .bind (h.mono fun _ _ h => .bind (h.mono fun _ _ q => .ret q))
theorem Wp.nilA (h : QA [] st) : Wp nilA st QA := .ret h
theorem Wp.tup {wa : M (List U)} (h : Wp wa st fun us s => us.length ≤ sizeLine ∧ Q (.tup us) s) : Wp (tupW wa) st Q := .bind (h.mono fun _ _ ⟨l, q⟩ => .o (if_pos l) q)
theorem Wp.lst {wa : M (List U)} (h : Wp wa st fun us s => us.length ≤ sizeLine ∧ Q (.lst us) s) : Wp (lstW wa) st Q := .bind (h.mono fun _ _ ⟨l, q⟩ => .o (if_pos l) q)
theorem Wp.call {f : List U → M U} {wa : M (List U)} (h : Wp wa st fun us s => Wp (f us) s Q) : Wp (callM f wa) st Q := .bind h
theorem Wp.seq {Q : Out S' L → Sto → Prop} {w : M (Out S L)} {k : S → M (Out S' L)} (h : Wp w st fun o s => match o with
    | .nx a => Wp (k a) s Q
    | .rt u => Q (.rt u) s
    | .bk l => Q (.bk l) s
    | .ct l => Q (.ct l) s) : Wp (seqO w k) st Q := .bind (h.mono fun o _ q => by
  cases o with
  | nx a => exact q
  | _ => exact .ret q)
theorem Wp.rt {Q : Out S L → Sto → Prop} {w : M U} (h : Wp w st fun u s => Q (.rt u) s) : Wp (rtO w) st Q := .bind (h.mono fun _ _ q => .ret q)
theorem Wp.nx {Q : Out S L → Sto → Prop} {s : S} (h : Q (.nx s) st) : Wp (nxO s) st Q := .ret h
theorem Wp.fn {w : M (Out Unit Unit)} (h : Wp w st fun o s => match o with
    | .rt u => Q u s
    | .nx _ => Q .non s
    | _ => False) : Wp (fnM w) st Q := .bind (h.mono fun o _ q => by
  cases o with
  | rt u => exact .ret q
  | nx _ => exact .ret q
  | bk _ => exact q.elim
  | ct _ => exact q.elim)
theorem Wp.for {f : U → S → M (Out S S)} {Q : Out S L → Sto → Prop} {us : List U} (I : Nat → S → Sto → Prop) {s0 : S} (h0 : I 0 s0 st)
    (hs : ∀ (i : Nat) (u : U) (s : S) (st : Sto), us[i]? = some u → I i s st → Wp (f u s) st fun o st' => match o with
      | .nx s' => I (i + 1) s' st'
      | .ct s' => I (i + 1) s' st'
      | .bk s' => Q (.nx s') st'
      | .rt u => Q (.rt u) st')
    (hd : ∀ s st, I us.length s st → Q (.nx s) st) : Wp (forO f us s0) st Q := by
  have key : ∀ (vs : List U) (k : Nat) (s : S) (st : Sto), us.drop k = vs → k ≤ us.length → I k s st → Wp (forO (L := L) f vs s) st Q := by
    intro vs
    induction vs with
    | nil =>
      intro k s st e hk hi
      have : k = us.length := by
        have := congrArg List.length e
        rw [List.length_drop] at this
        simp at this
        omega
      subst this
      exact .ret (hd s st hi)
    | cons v vs ih =>
      intro k s st e hk hi
      have hlt : k < us.length := by
        have := congrArg List.length e
        rw [List.length_drop, List.length_cons] at this
        omega
      have ev : us[k]? = some v := by rw [← List.head?_drop, e]; rfl
      have ed : us.drop (k + 1) = vs := by rw [← List.tail_drop, e]; rfl
      refine .bind ((hs k v s st ev hi).mono fun o st' q => ?_)
      cases o with
      | nx s' => exact ih (k + 1) s' st' ed hlt q
      | ct s' => exact ih (k + 1) s' st' ed hlt q
      | bk s' => exact .ret q
      | rt u => exact .ret q
  exact key us 0 s0 st rfl (Nat.zero_le _) h0
theorem Wp.lc {wl : M (List U)} {wt : U → M Bool} {we : U → M U} (h : Wp wl st fun us s => Wp (compM wt we us) s fun r s => r.length ≤ sizeLine ∧ Q (.lst r) s) : Wp (lcW wl wt we) st Q := .bind (h.mono fun _ _ h => .bind (h.mono fun _ _ ⟨l, q⟩ => .o (if_pos l) q))
end
end UX

set_option Elab.async false
set_option linter.all false
set_option maxRecDepth 100000
set_option maxHeartbeats 4000000
set_option autoImplicit false
namespace UX
open PySem PySem.Spec
theorem pdAll_ints : ∀ cs : List Int, pdAll (cs.map U.int) = some (cs.map PyData.int)
  | [] => rfl
  | c :: cs => by simp [pdAll, pd, pdAll_ints cs]
theorem shaped_ints (cs : List Int) : SeqAt.shaped (.list (cs.map PyData.int)) = true :=
  EL.shaped_list (n := 5) (fun d hd => by obtain ⟨w, _, rfl⟩ := List.mem_map.mp hd; rfl) (fun d hd => by obtain ⟨w, _, rfl⟩ := List.mem_map.mp hd; simp [PyData.depth]) (by decide)
theorem eqU_nil (cs : List Int) : eqU (.lst (cs.map .int)) (.lst []) = some (.bl cs.isEmpty) := by
  have e : pd (.lst (cs.map .int)) = some (.list (cs.map PyData.int)) := by simp [pd, pdAll_ints]
  show eqD _ _ = _
  unfold eqD
  rw [e, show pd (.lst []) = some (.list []) from rfl]
  simp only [shaped_ints, show SeqAt.shaped (.list []) = true from by decide, and_self, if_true]
  cases cs <;> simp [PyData.eqv, PyData.eqvAll]
theorem eqU_int (i j : Int) : eqU (.int i) (.int j) = some (.bl (decide (i = j))) := by
  show eqD (.int i) (.int j) = _
  unfold eqD
  rw [show pd (.int i) = some (.int i) from rfl, show pd (.int j) = some (.int j) from rfl]
  have h : ∀ i : Int, SeqAt.shaped (.int i) = true := fun i => by simp [SeqAt.shaped, PyData.canLay0, PyData.depth]
  simp only [h, and_self, if_true]
  simp only [PyData.eqv]
  rfl
theorem fdiv_at {i j : Int} (h : j ≠ 0) (h2 : j.natAbs < 1073741824) : fdivU (.int i) (.int j) = some (.int (i.fdiv j)) := if_pos ⟨h, h2⟩
theorem mod_at {i j : Int} (h : j ≠ 0) : modU (.int i) (.int j) = some (.int (i.fmod j)) := if_pos h
theorem mul_at {i j : Int} (h : L2.CMul i j) : mulU (.int i) (.int j) = some (.int (i * j)) := if_pos h
theorem pow_at {i j : Int} (h : L2.CPow i j) : powU (.int i) (.int j) = some (.int (i ^ j.toNat)) := if_pos h
theorem eqU_str {x y : Str} {b : Bool} (hb : decide (x = y) = b) : eqU (.str x) (.str y) = some (.bl b) := by rw [← hb]; rfl
theorem neU_str {x y : Str} {b : Bool} (hb : (!decide (x = y)) = b) : neU (.str x) (.str y) = some (.bl b) := by rw [← hb]; rfl
theorem leaf_ints (cs : List Int) : (cs.map U.int).all leafU = true := by
  rw [List.all_map, List.all_eq_true]; intro c _; rfl
end UX

set_option Elab.async false
set_option linter.all false
set_option maxRecDepth 100000
set_option maxHeartbeats 4000000
set_option autoImplicit false
namespace UX
open PySem PySem.Spec
def WpO {α : Type} (x : Option α) (P : α → Prop) : Prop := ∃ c, x = some c ∧ P c
def SeqK {S S' L : Type} (k : S → M (Out S' L)) (Q : Out S' L → Sto → Prop) : Out S L → Sto → Prop
  | .nx a, s => Wp (k a) s Q
  | .rt u, s => Q (.rt u) s
  | .bk l, s => Q (.bk l) s
  | .ct l, s => Q (.ct l) s
def FnK (Q : U → Sto → Prop) : Out Unit Unit → Sto → Prop
  | .rt u, s => Q u s
  | .nx _, s => Q .non s
  | _, _ => False
def ForK {S L : Type} (J : S → Sto → Prop) (Q : Out S L → Sto → Prop) : Out S S → Sto → Prop
  | .nx s, st => J s st
  | .ct s, st => J s st
  | .bk s, st => Q (.nx s) st
  | .rt u, st => Q (.rt u) st
def IfP (b : Bool) (A B : Prop) : Prop := if b = true then A else B
section
variable {α β S S' L : Type} {st : Sto} {Q : U → Sto → Prop} {QT : Bool → Sto → Prop} {QA : List U → Sto → Prop} {A B : Prop} {b : Bool}
theorem if_t (h : A) : IfP true A B := h
theorem if_f (h : B) : IfP false A B := h
theorem if_yes (e : b = true) (h : A) : IfP b A B := by subst e; exact h
theorem if_no (e : b = false) (h : B) : IfP b A B := by subst e; exact h
theorem if_dec {p : Prop} [Decidable p] (h1 : p → A) (h2 : ¬ p → B) : IfP (decide p) A B := by
  by_cases h : p
  · rw [decide_eq_true h]; exact h1 h
  · rw [decide_eq_false h]; exact h2 h
theorem if_ndec {p : Prop} [Decidable p] (h1 : ¬ p → A) (h2 : p → B) : IfP (!decide p) A B := by
  by_cases h : p
  · rw [decide_eq_true h]; exact h2 h
  · rw [decide_eq_false h]; exact h1 h
theorem if_p {p : Prop} [Decidable p] (h : p) (q : A) : IfP (decide p) A B := if_yes (decide_eq_true h) q
theorem if_n {p : Prop} [Decidable p] (h : ¬ p) (q : B) : IfP (decide p) A B := if_no (decide_eq_false h) q
theorem if_nn {p : Prop} [Decidable p] (h : p) (q : B) : IfP (!decide p) A B := if_no (by rw [decide_eq_true h]; rfl) q
theorem wo_some {x : α} {P : α → Prop} (h : P x) : WpO (some x) P := ⟨x, rfl, h⟩
theorem wo_eq {x : Option α} {a : α} {P : α → Prop} (e : x = some a) (h : P a) : WpO x P := ⟨a, e, h⟩
theorem vs_ret {Q : α → Sto → Prop} {a : α} (h : Q a st) : Wp (.ret a) st Q := .ret h
theorem vs_eq {w : M α} {Q : α → Sto → Prop} {a : α} (e : w = .ret a) (h : Q a st) : Wp w st Q := e ▸ .ret h
theorem vs_o {x : Option α} {Q : α → Sto → Prop} (h : WpO x fun a => Q a st) : Wp (.o x) st Q := by obtain ⟨c, e, q⟩ := h; exact .o e q
theorem vs_op1 {f : U → Option U} {wa : M U} (h : Wp wa st fun a s => WpO (f a) fun c => Q c s) : Wp (op1 f wa) st Q := .op1 h
theorem vs_op2 {f : U → U → Option U} {wa wb : M U} (h : Wp wa st fun a s => Wp wb s fun b s => WpO (f a b) fun c => Q c s) : Wp (op2 f wa wb) st Q := .op2 h
theorem vs_test {wa : M U} (h : Wp wa st fun a s => WpO (boolU a) fun b => QT b s) : Wp (testW wa) st QT := .bind (h.mono fun _ _ q => vs_o q)
theorem vs_not {w : M Bool} (h : Wp w st fun b s => QT (!b) s) : Wp (notT w) st QT := .not h
theorem vs_and {w w' : M Bool} (h : Wp w st fun b s => IfP b (Wp w' s QT) (QT false s)) : Wp (andT w w') st QT := .and h
theorem vs_or {w w' : M Bool} (h : Wp w st fun b s => IfP b (QT true s) (Wp w' s QT)) : Wp (orT w w') st QT := .or h
theorem vs_andW {w w' : M U} (h : Wp (testW w) st fun b s => IfP b (Wp w' s Q) (Q (.bl false) s)) : Wp (andW w w') st Q := .andW h
theorem vs_orW {w w' : M U} (h : Wp (testW w) st fun b s => IfP b (Q (.bl true) s) (Wp w' s Q)) : Wp (orW w w') st Q := .orW h
theorem vs_ite {Q : α → Sto → Prop} {c : M Bool} {w w' : M α} (h : Wp c st fun b s => IfP b (Wp w s Q) (Wp w' s Q)) : Wp (iteW c w w') st Q := .ite h
theorem vs_chain {f g : U → U → Option U} {wa wb wc : M U} (h : Wp wa st fun a s => Wp wb s fun b s => WpO (f a b) fun t => WpO (boolU t) fun k => IfP k (Wp wc s fun c s => WpO (g b c) fun r => Q r s) (Q (.bl false) s)) : Wp (chainW f g wa wb wc) st Q :=
  .bind (h.mono fun a _ h => .bind (h.mono fun b s h => .bind (vs_test (vs_o (by
    obtain ⟨t, e, k, e', q⟩ := h
    refine ⟨t, e, k, e', ?_⟩
    cases k with
    | false => exact .ret q
    | true => exact .bind (Wp.mono (show Wp wc s _ from q) fun c s q => vs_o q))))))
theorem vs_consA {wa : M U} {wr : M (List U)} (h : Wp wa st fun a s => Wp wr s fun r s => QA (a :: r) s) : Wp (consA wa wr) st QA := .consA h
theorem vs_nilA (h : QA [] st) : Wp nilA st QA := .ret h
theorem vs_tup {wa : M (List U)} (h : Wp wa st fun us s => us.length ≤ sizeLine ∧ Q (.tup us) s) : Wp (tupW wa) st Q := .tup h
theorem vs_lst {wa : M (List U)} (h : Wp wa st fun us s => us.length ≤ sizeLine ∧ Q (.lst us) s) : Wp (lstW wa) st Q := .lst h
theorem vs_call {f : List U → M U} {wa : M (List U)} (h : Wp wa st fun us s => Wp (f us) s Q) : Wp (callM f wa) st Q := .call h
theorem vs_meth {c m : Str} {f : List U → M U} {wo : M U} {wa : M (List U)} (h : Wp wo st fun o s => WpO (isObj c m o) fun _ => Wp wa s fun us s => Wp (f (o :: us)) s Q) : Wp (methM c m f wo wa) st Q :=
  .bind (h.mono fun o s h => .bind (vs_o (by obtain ⟨x, e, q⟩ := h; exact ⟨x, e, .bind q⟩)))
theorem vs_L0 {f : M U} (h : Wp f st Q) : Wp (L0 f []) st Q := h
theorem vs_L1 {f : U → M U} {a : U} (h : Wp (f a) st Q) : Wp (L1 f [a]) st Q := h
theorem vs_L2 {f : U → U → M U} {a b : U} (h : Wp (f a b) st Q) : Wp (L2' f [a, b]) st Q := h
theorem vs_L3 {f : U → U → U → M U} {a b c : U} (h : Wp (f a b c) st Q) : Wp (L3 f [a, b, c]) st Q := h
theorem vs_L4 {f : U → U → U → U → M U} {a b c d : U} (h : Wp (f a b c d) st Q) : Wp (L4 f [a, b, c, d]) st Q := h
theorem vs_L5 {f : U → U → U → U → U → M U} {a b c d e : U} (h : Wp (f a b c d e) st Q) : Wp (L5 f [a, b, c, d, e]) st Q := h
theorem vs_L6 {f : U → U → U → U → U → U → M U} {a b c d e g : U} (h : Wp (f a b c d e g) st Q) : Wp (L6 f [a, b, c, d, e, g]) st Q := h
theorem vs_seq {Q : Out S' L → Sto → Prop} {w : M (Out S L)} {k : S → M (Out S' L)} (h : Wp w st (SeqK k Q)) : Wp (seqO w k) st Q := .seq (h.mono fun o s q => by cases o <;> exact q)
theorem sk_nx {k : S → M (Out S' L)} {Q : Out S' L → Sto → Prop} {a : S} (h : Wp (k a) st Q) : SeqK (L := L) k Q (.nx a) st := h
theorem sk_rt {k : S → M (Out S' L)} {Q : Out S' L → Sto → Prop} {u : U} (h : Q (.rt u) st) : SeqK (L := L) k Q (.rt u) st := h
theorem sk_bk {k : S → M (Out S' L)} {Q : Out S' L → Sto → Prop} {u : L} (h : Q (.bk u) st) : SeqK (L := L) k Q (.bk u) st := h
theorem sk_ct {k : S → M (Out S' L)} {Q : Out S' L → Sto → Prop} {u : L} (h : Q (.ct u) st) : SeqK (L := L) k Q (.ct u) st := h
theorem fk_rt {u : U} (h : Q u st) : FnK Q (.rt u) st := h
theorem fk_nx {u : Unit} (h : Q .non st) : FnK Q (.nx u) st := h
theorem ok_nx {J : S → Sto → Prop} {Q : Out S L → Sto → Prop} {s : S} (h : J s st) : ForK J Q (.nx s) st := h
theorem ok_ct {J : S → Sto → Prop} {Q : Out S L → Sto → Prop} {s : S} (h : J s st) : ForK J Q (.ct s) st := h
theorem ok_bk {J : S → Sto → Prop} {Q : Out S L → Sto → Prop} {s : S} (h : Q (.nx s) st) : ForK J Q (.bk s) st := h
theorem ok_rt {J : S → Sto → Prop} {Q : Out S L → Sto → Prop} {u : U} (h : Q (.rt u) st) : ForK J Q (.rt u) st := h
theorem vs_rt {Q : Out S L → Sto → Prop} {w : M U} (h : Wp w st fun u s => Q (.rt u) s) : Wp (rtO w) st Q := .rt h
theorem vs_nx {Q : Out S L → Sto → Prop} {s : S} (h : Q (.nx s) st) : Wp (nxO s) st Q := .ret h
theorem vs_fn {w : M (Out Unit Unit)} (h : Wp w st (FnK Q)) : Wp (fnM w) st Q := .fn (h.mono fun o s q => by cases o <;> exact q)
theorem vs_noP {Q : Option Int → Sto → Prop} (h : Q none st) : Wp noP st Q := .ret h
theorem vs_someP {Q : Option Int → Sto → Prop} {w : M U} (h : Wp w st fun u s => WpO (intU u) fun i => Q (some i) s) : Wp (someP w) st Q := .bind (h.mono fun u s q => vs_o (by obtain ⟨i, e, q⟩ := q; exact ⟨some i, by rw [e]; rfl, q⟩))
theorem vs_sl {wa : M U} {wl wh : M (Option Int)} (h : Wp wa st fun a s => Wp wl s fun l s => Wp wh s fun h s => WpO (slU a l h) fun c => Q c s) : Wp (slW wa wl wh) st Q := .bind (h.mono fun _ _ h => .bind (h.mono fun _ _ h => .bind (h.mono fun _ _ h => vs_o h)))
theorem vs_it {w : M U} (h : Wp w st fun u s => WpO (itU u) fun r => QA r s) : Wp (itW w) st QA := .bind (h.mono fun _ _ h => vs_o h)
theorem vs_rng1 {w : M U} (h : Wp w st fun u s => WpO (rng1U u) fun r => QA r s) : Wp (rng1W w) st QA := .bind (h.mono fun _ _ h => vs_o h)
theorem vs_rng2 {w w' : M U} (h : Wp w st fun u s => Wp w' s fun u' s => WpO (rng2U u u') fun r => QA r s) : Wp (rng2W w w') st QA := .bind (h.mono fun _ _ h => .bind (h.mono fun _ _ h => vs_o h))
theorem vs_zip {w w' : M U} (h : Wp w st fun u s => Wp w' s fun u' s => WpO (zipU u u') fun r => QA r s) : Wp (zipW w w') st QA := .bind (h.mono fun _ _ h => .bind (h.mono fun _ _ h => vs_o h))
theorem vs_un2 {Q : α → Sto → Prop} {a b : U} {k : U → U → M α} (h : Wp (k a b) st Q) : Wp (un2 (.tup [a, b]) k) st Q := h
theorem vs_un3 {Q : α → Sto → Prop} {a b c : U} {k : U → U → U → M α} (h : Wp (k a b c) st Q) : Wp (un3 (.tup [a, b, c]) k) st Q := h
theorem vs_un4 {Q : α → Sto → Prop} {a b c d : U} {k : U → U → U → U → M α} (h : Wp (k a b c d) st Q) : Wp (un4 (.tup [a, b, c, d]) k) st Q := h
theorem vs_un5 {Q : α → Sto → Prop} {a b c d e : U} {k : U → U → U → U → U → M α} (h : Wp (k a b c d e) st Q) : Wp (un5 (.tup [a, b, c, d, e]) k) st Q := h
theorem vs_un6 {Q : α → Sto → Prop} {a b c d e f : U} {k : U → U → U → U → U → U → M α} (h : Wp (k a b c d e f) st Q) : Wp (un6 (.tup [a, b, c, d, e, f]) k) st Q := h
theorem vs_lc {wl : M (List U)} {wt : U → M Bool} {we : U → M U} (h : Wp wl st fun us s => Wp (compM wt we us) s fun r s => r.length ≤ sizeLine ∧ Q (.lst r) s) : Wp (lcW wl wt we) st Q := .lc h
theorem vs_lc2 {wl : M (List U)} {wt : U → M Bool} {w1 : U → M (List U)} {wt1 : U → U → M Bool} {we : U → U → M U} (h : Wp wl st fun us s => Wp (comp2M wt w1 wt1 we us) s fun r s => r.length ≤ sizeLine ∧ Q (.lst r) s) : Wp (lc2W wl wt w1 wt1 we) st Q := .bind (h.mono fun _ _ h => .bind (h.mono fun _ _ ⟨l, q⟩ => .o (if_pos l) q))
theorem vs_for {τ σ : Type} {c : τ → U} {e : σ → S} {f : U → S → M (Out S S)} {Q : Out S L → Sto → Prop} {xs : List τ} (I : List τ → σ → Sto → Prop) {s0 : S} {t0 : σ} (he : s0 = e t0) (h0 : I [] t0 st)
    (hs : ∀ (pre : List τ) (x : τ) (post : List τ) (s : σ) (st : Sto), xs = pre ++ x :: post → I pre s st → Wp (f (c x) (e s)) st (ForK (fun s' st' => ∃ t, s' = e t ∧ I (pre ++ [x]) t st') Q))
    (hd : ∀ s st, I xs s st → Q (.nx (e s)) st) : Wp (forO f (xs.map c) s0) st Q := by
  subst he
  have key : ∀ (post pre : List τ) (s : σ) (st : Sto), xs = pre ++ post → I pre s st → Wp (forO (L := L) f (post.map c) (e s)) st Q := by
    intro post
    induction post with
    | nil => intro pre s st ex hi; rw [List.append_nil] at ex; subst ex; exact .ret (hd s st hi)
    | cons x post ih =>
      intro pre s st ex hi
      refine .bind ((hs pre x post s st ex hi).mono fun o st' q => ?_)
      cases o with
      | nx s' => obtain ⟨t, rfl, q⟩ := q; exact ih (pre ++ [x]) t st' (by rw [ex]; simp) q
      | ct s' => obtain ⟨t, rfl, q⟩ := q; exact ih (pre ++ [x]) t st' (by rw [ex]; simp) q
      | bk s' => exact .ret q
      | rt u => exact .ret q
  exact key xs [] t0 st rfl h0
theorem vs_forN {σ : Type} {e : σ → S} {f : U → S → M (Out S S)} {Q : Out S L → Sto → Prop} {n : Nat} (I : Nat → σ → Sto → Prop) {s0 : S} {t0 : σ} (he : s0 = e t0) (h0 : I 0 t0 st)
    (hs : ∀ (i : Nat) (s : σ) (st : Sto), i < n → I i s st → Wp (f (.int (i : Nat)) (e s)) st (ForK (fun s' st' => ∃ t, s' = e t ∧ I (i + 1) t st') Q))
    (hd : ∀ s st, I n s st → Q (.nx (e s)) st) : Wp (forO f ((List.range n).map fun i => .int (i : Nat)) s0) st Q := by
  subst he
  refine vs_for (c := fun i : Nat => U.int (i : Nat)) (e := e) (xs := List.range n) (fun pre s st => pre = List.range pre.length ∧ I pre.length s st) (t0 := t0) rfl ⟨rfl, h0⟩ ?_ ?_
  · rintro pre x post s st ex ⟨hp, hi⟩
    have hl : pre.length < n := by have := congrArg List.length ex; simp at this; omega
    have hx : x = pre.length := by
      have h1 : (List.range n)[pre.length]? = some x := by rw [ex]; simp
      rw [List.getElem?_range hl] at h1
      exact (Option.some.inj h1).symm
    subst hx
    refine (hs pre.length s st hl hi).mono fun o st' q => ?_
    have hp' : pre ++ [pre.length] = List.range (pre ++ [pre.length]).length := by
      rw [List.length_append, List.length_singleton, List.range_succ, ← hp]
    cases o with
    | nx s' => obtain ⟨t, rfl, q⟩ := q; exact ⟨t, rfl, hp', by simpa using q⟩
    | ct s' => obtain ⟨t, rfl, q⟩ := q; exact ⟨t, rfl, hp', by simpa using q⟩
    | bk s' => exact q
    | rt u => exact q
  · rintro s st ⟨_, hi⟩
    exact hd s st (by simpa using hi)
theorem vs_comp {τ κ : Type} {c : τ → U} {d : κ → U} {wt : U → M Bool} {we : U → M U} {xs : List τ} (I : List τ → List κ → Sto → Prop) (h0 : I [] [] st)
    (hs : ∀ (pre : List τ) (x : τ) (post : List τ) (r : List κ) (st : Sto), xs = pre ++ x :: post → I pre r st → Wp (wt (c x)) st fun b s => IfP b (Wp (we (c x)) s fun y s => ∃ z, y = d z ∧ I (pre ++ [x]) (r ++ [z]) s) (I (pre ++ [x]) r s))
    (hd : ∀ r st, I xs r st → QA (r.map d) st) : Wp (compM wt we (xs.map c)) st QA := by
  have key : ∀ (post pre : List τ) (r : List κ) (st : Sto), xs = pre ++ post → I pre r st → Wp (compM wt we (post.map c)) st fun x s => QA (r.map d ++ x) s := by
    intro post
    induction post with
    | nil => intro pre r st ex hi; rw [List.append_nil] at ex; subst ex; exact .ret (by rw [List.append_nil]; exact hd r st hi)
    | cons x post ih =>
      intro pre r st ex hi
      refine .bind ((hs pre x post r st ex hi).mono fun b s q => ?_)
      cases b with
      | false => exact ih (pre ++ [x]) r s (by rw [ex]; simp) q
      | true => exact .bind (Wp.mono (show Wp (we (c x)) s _ from q) fun y s ⟨z, ey, q⟩ => .bind ((ih (pre ++ [x]) (r ++ [z]) s (by rw [ex]; simp) q).mono fun y' s q => .ret (by subst ey; simpa using q)))
  exact (key xs [] [] st rfl h0).mono fun x s q => q
theorem vs_compN {κ : Type} {d : κ → U} {wt : U → M Bool} {we : U → M U} {n : Nat} (I : Nat → List κ → Sto → Prop) (h0 : I 0 [] st)
    (hs : ∀ (i : Nat) (r : List κ) (st : Sto), i < n → I i r st → Wp (wt (.int (i : Nat))) st fun b s => IfP b (Wp (we (.int (i : Nat))) s fun y s => ∃ z, y = d z ∧ I (i + 1) (r ++ [z]) s) (I (i + 1) r s))
    (hd : ∀ r st, I n r st → QA (r.map d) st) : Wp (compM wt we ((List.range n).map fun i => .int (i : Nat))) st QA := by
  refine vs_comp (c := fun i : Nat => U.int (i : Nat)) (d := d) (xs := List.range n) (fun pre r st => pre = List.range pre.length ∧ I pre.length r st) ⟨rfl, h0⟩ ?_ ?_
  · rintro pre x post r st ex ⟨hp, hi⟩
    have hl : pre.length < n := by have := congrArg List.length ex; simp at this; omega
    have hx : x = pre.length := by
      have h1 : (List.range n)[pre.length]? = some x := by rw [ex]; simp
      rw [List.getElem?_range hl] at h1
      exact (Option.some.inj h1).symm
    subst hx
    have hp' : pre ++ [pre.length] = List.range (pre ++ [pre.length]).length := by
      rw [List.length_append, List.length_singleton, List.range_succ, ← hp]
    refine (hs pre.length r st hl hi).mono fun b st' q => ?_
    cases b with
    | false => exact ⟨hp', by simpa using (show I (pre.length + 1) r st' from q)⟩
    | true => exact Wp.mono (show Wp (we _) st' _ from q) fun y s ⟨z, e, q⟩ => ⟨z, e, hp', by simpa using q⟩
  · rintro r st ⟨_, hi⟩
    exact hd r st (by simpa using hi)
end
section
variable {α β : Type}
theorem eq_of_wp {w : M α} {a : α} (h : ∀ st, Wp w st fun x s => x = a ∧ s = st) : w = .ret a := by
  funext st
  obtain ⟨x, s, e, rfl, rfl⟩ := h st
  exact e
theorem comp_eq {τ κ : Type} {c : τ → U} {d : κ → U} {wt : U → M Bool} {we : U → M U} {p : τ → Bool} {g : τ → κ} : ∀ {xs : List τ}, (∀ x ∈ xs, wt (c x) = .ret (p x) ∧ (p x = true → we (c x) = .ret (d (g x)))) → compM wt we (xs.map c) = .ret (((xs.filter p).map g).map d)
  | [], _ => rfl
  | x :: xs, h => by
    have ih := comp_eq (xs := xs) fun y m => h y (List.mem_cons_of_mem _ m)
    obtain ⟨h1, h2⟩ := h x List.mem_cons_self
    rw [List.map_cons, compM, h1, M.bind_ret, List.filter_cons]
    cases e : p x with
    | false => exact ih
    | true => rw [if_pos rfl, h2 e, M.bind_ret, ih]; rfl
end
end UX

set_option Elab.async false
set_option linter.all false
set_option maxRecDepth 100000
set_option maxHeartbeats 4000000
set_option autoImplicit false
namespace UX
open PySem PySem.Spec
mutual
def smU : U → Bool
  | .non => true
  | .bl _ => true
  | .int i => decide (i.natAbs < 1000000000000)
  | .str x => PyData.strOk x && decide (x.cps.size ≤ 100)
  | .tup us => smA us
  | .lst us => smA us
  | _ => false
def smA : List U → Bool
  | [] => true
  | u :: us => smU u && smA us
end
mutual
def wtU : U → Nat
  | .tup us => wtA us
  | .lst us => wtA us
  | _ => 100
def wtA : List U → Nat
  | [] => 0
  | u :: us => wtU u + 1 + wtA us
end
mutual
def dpU : U → Nat
  | .tup us => dpA us + 1
  | .lst us => dpA us + 1
  | _ => 0
def dpA : List U → Nat
  | [] => 0
  | u :: us => max (dpU u) (dpA us)
end
structure SmD (u : U) (d : PyData) : Prop where
  pd : pd u = some d
  sh : d.showable = true
  nd : d.hasDict = false
  dp : d.depth = dpU u
  ls : d.leavesShort 13 = true
  wt : d.weight ≤ wtU u
  cl : d.canLay0 = true
structure SmDA (us : List U) (ds : List PyData) : Prop where
  pd : pdAll us = some ds
  sh : PyData.showableAll ds = true
  nd : PyData.hasDictAll ds = false
  dp : PyData.depthAll ds = dpA us
  ls : PyData.leavesShortAll 13 ds = true
  wt : PyData.weightAll ds ≤ wtA us
  cl : PyData.canLayAll0 ds = true
theorem log_small {i : Int} (h : i.natAbs < 1000000000000) : i.natAbs.log2 < 41 := by
  by_cases z : i.natAbs = 0
  · rw [z]; decide
  · exact (Nat.log2_lt z).mpr (Nat.lt_of_lt_of_le h (by decide))
mutual
theorem sm_pd : ∀ u : U, smU u = true → ∃ d, SmD u d
  | .non, _ => ⟨.none, rfl, rfl, rfl, rfl, rfl, by decide, rfl⟩
  | .bl b, _ => ⟨.bool b, rfl, rfl, rfl, rfl, rfl, by show 0 ≤ 100; decide, rfl⟩
  | .int i, h => by
    have h : i.natAbs < 1000000000000 := by simpa [smU] using h
    have hl := log_small h
    refine ⟨.int i, rfl, ?_, rfl, rfl, ?_, ?_, rfl⟩
    · simp only [PyData.showable]; exact decide_eq_true (by omega)
    · have h1 : PyData.leavesShortAll 13 ([i].map .int) = true := PyData.leavesShortAll_of_canLay0 13 _ (EL.canLayAll_ints [i]) (PyData.intsShortAll_ints [i] fun n hn => by rw [List.mem_singleton.mp hn]; omega)
      simpa [PyData.leavesShortAll] using h1
    · simp only [PyData.weight, wtU]
      split <;> omega
  | .str x, h => by
    have h : PyData.strOk x = true ∧ x.cps.size ≤ 100 := by simpa [smU] using h
    refine ⟨.str x, rfl, rfl, rfl, rfl, ?_, h.2, h.1⟩
    exact PyData.leavesShort_of_canLay0 13 (.str x) h.1 rfl
  | .tup us, h => by
    obtain ⟨ds, e⟩ := smA_pd us h
    exact ⟨.tuple ds, by simp [pd, e.pd], by simpa [PyData.showable] using e.sh, by simpa [PyData.hasDict] using e.nd, by simp [PyData.depth, dpU, e.dp], by simpa [PyData.leavesShort] using e.ls, by simpa [PyData.weight, wtU] using e.wt, by simpa [PyData.canLay0] using e.cl⟩
  | .lst us, h => by
    obtain ⟨ds, e⟩ := smA_pd us h
    exact ⟨.list ds, by simp [pd, e.pd], by simpa [PyData.showable] using e.sh, by simpa [PyData.hasDict] using e.nd, by simp [PyData.depth, dpU, e.dp], by simpa [PyData.leavesShort] using e.ls, by simpa [PyData.weight, wtU] using e.wt, by simpa [PyData.canLay0] using e.cl⟩
  | .dct _ _, h => by simp [smU] at h
  | .dcT _ _, h => by simp [smU] at h
  | .obj _ _ _, h => by simp [smU] at h
  | .top _, h => by simp [smU] at h
  | .frl _, h => by simp [smU] at h
  | .loc _, h => by simp [smU] at h
theorem smA_pd : ∀ us : List U, smA us = true → ∃ ds, SmDA us ds
  | [], _ => ⟨[], rfl, rfl, rfl, rfl, rfl, Nat.le_refl _, rfl⟩
  | u :: us, h => by
    have h : smU u = true ∧ smA us = true := by simpa [smA] using h
    obtain ⟨d, e⟩ := sm_pd u h.1
    obtain ⟨ds, f⟩ := smA_pd us h.2
    have w1 := e.wt
    have w2 := f.wt
    exact ⟨d :: ds, by simp [pdAll, e.pd, f.pd], by simp [PyData.showableAll, e.sh, f.sh], by simp [PyData.hasDictAll, e.nd, f.nd], by simp [PyData.depthAll, dpA, e.dp, f.dp], by simp [PyData.leavesShortAll, e.ls, f.ls], by simp only [PyData.weightAll, wtA]; omega, by simp [PyData.canLayAll0, e.cl, f.cl]⟩
end
theorem repr_sm {u : U} (h : smU u = true) (hd : dpU u ≤ 60) (hw : wtU u ≤ 1000000) : ∃ x, reprU u = some (.str x) := by
  obtain ⟨d, e⟩ := sm_pd u h
  refine ⟨d.shown, ?_⟩
  have hs := PyData.shown_fits (B := 13) (by decide) (by decide) e.ls (by have := e.wt; omega)
  have hdd := e.dp
  unfold reprU
  rw [e.pd]
  exact if_pos ⟨e.sh, e.nd, by omega, hs⟩
mutual
def nbU : U → Bool
  | .int _ => true
  | .non => true
  | .str x => PyData.strOk x
  | .tup us => nbA us
  | .lst us => nbA us
  | _ => false
def nbA : List U → Bool
  | [] => true
  | u :: us => nbU u && nbA us
end
structure NbD (u : U) (d : PyData) : Prop where
  pd : pd u = some d
  dp : d.depth = dpU u
  cl : d.canLay0 = true
structure NbDA (us : List U) (ds : List PyData) : Prop where
  pd : pdAll us = some ds
  dp : PyData.depthAll ds = dpA us
  cl : PyData.canLayAll0 ds = true
mutual
theorem nb_pd : ∀ u : U, nbU u = true → ∃ d, NbD u d
  | .non, _ => ⟨.none, rfl, rfl, rfl⟩
  | .int i, _ => ⟨.int i, rfl, rfl, rfl⟩
  | .str x, h => ⟨.str x, rfl, rfl, by simpa [nbU, PyData.canLay0] using h⟩
  | .tup us, h => by
    obtain ⟨ds, e⟩ := nbA_pd us h
    exact ⟨.tuple ds, by simp [pd, e.pd], by simp [PyData.depth, dpU, e.dp], by simpa [PyData.canLay0] using e.cl⟩
  | .lst us, h => by
    obtain ⟨ds, e⟩ := nbA_pd us h
    exact ⟨.list ds, by simp [pd, e.pd], by simp [PyData.depth, dpU, e.dp], by simpa [PyData.canLay0] using e.cl⟩
  | .bl _, h => by simp [nbU] at h
  | .dct _ _, h => by simp [nbU] at h
  | .dcT _ _, h => by simp [nbU] at h
  | .obj _ _ _, h => by simp [nbU] at h
  | .top _, h => by simp [nbU] at h
  | .frl _, h => by simp [nbU] at h
  | .loc _, h => by simp [nbU] at h
theorem nbA_pd : ∀ us : List U, nbA us = true → ∃ ds, NbDA us ds
  | [], _ => ⟨[], rfl, rfl, rfl⟩
  | u :: us, h => by
    have h : nbU u = true ∧ nbA us = true := by simpa [nbA] using h
    obtain ⟨d, e⟩ := nb_pd u h.1
    obtain ⟨ds, f⟩ := nbA_pd us h.2
    exact ⟨d :: ds, by simp [pdAll, e.pd, f.pd], by simp [PyData.depthAll, dpA, e.dp, f.dp], by simp [PyData.canLayAll0, e.cl, f.cl]⟩
end
theorem pdAll_cons {u : U} {us : List U} {ds : List PyData} (h : pdAll (u :: us) = some ds) : ∃ d r, ds = d :: r ∧ pd u = some d ∧ pdAll us = some r := by
  rw [pdAll] at h
  cases e : pd u with
  | none => rw [e] at h; cases h
  | some d =>
    cases f : pdAll us with
    | none => rw [e, f] at h; cases h
    | some r => rw [e, f] at h; cases h; exact ⟨d, r, rfl, rfl, rfl⟩
theorem pd_tup {us : List U} {d : PyData} (h : pd (.tup us) = some d) : ∃ ds, d = .tuple ds ∧ pdAll us = some ds := by
  obtain ⟨ds, e, rfl⟩ := Option.map_eq_some_iff.mp (show (pdAll us).map .tuple = some d from h)
  exact ⟨ds, rfl, e⟩
theorem pd_lst {us : List U} {d : PyData} (h : pd (.lst us) = some d) : ∃ ds, d = .list ds ∧ pdAll us = some ds := by
  obtain ⟨ds, e, rfl⟩ := Option.map_eq_some_iff.mp (show (pdAll us).map .list = some d from h)
  exact ⟨ds, rfl, e⟩
mutual
theorem eqv_iff : ∀ (u v : U) (d e : PyData), nbU u = true → nbU v = true → pd u = some d → pd v = some e → (PyData.eqv d e = true ↔ u = v)
  | .non, v, d, e, _, hv, e1, e2 => by
    cases e1
    cases v <;> simp [nbU] at hv <;> first
      | (cases e2; simp [PyData.eqv])
      | (obtain ⟨ds, rfl, _⟩ := pd_tup e2; simp [PyData.eqv])
      | (obtain ⟨ds, rfl, _⟩ := pd_lst e2; simp [PyData.eqv])
  | .int i, v, d, e, _, hv, e1, e2 => by
    cases e1
    cases v <;> simp [nbU] at hv <;> first
      | (cases e2; simp [PyData.eqv])
      | (obtain ⟨ds, rfl, _⟩ := pd_tup e2; simp [PyData.eqv])
      | (obtain ⟨ds, rfl, _⟩ := pd_lst e2; simp [PyData.eqv])
  | .str i, v, d, e, _, hv, e1, e2 => by
    cases e1
    cases v <;> simp [nbU] at hv <;> first
      | (cases e2; simp [PyData.eqv])
      | (obtain ⟨ds, rfl, _⟩ := pd_tup e2; simp [PyData.eqv])
      | (obtain ⟨ds, rfl, _⟩ := pd_lst e2; simp [PyData.eqv])
  | .tup us, v, d, e, hu, hv, e1, e2 => by
    obtain ⟨ds, rfl, f⟩ := pd_tup e1
    cases v with
    | tup vs =>
      obtain ⟨es, rfl, g⟩ := pd_tup e2
      rw [PyData.eqv, eqvA_iff us vs ds es hu hv f g]
      simp
    | lst vs => obtain ⟨es, rfl, g⟩ := pd_lst e2; simp [PyData.eqv]
    | non => cases e2; simp [PyData.eqv]
    | int _ => cases e2; simp [PyData.eqv]
    | str _ => cases e2; simp [PyData.eqv]
    | _ => simp [nbU] at hv
  | .lst us, v, d, e, hu, hv, e1, e2 => by
    obtain ⟨ds, rfl, f⟩ := pd_lst e1
    cases v with
    | lst vs =>
      obtain ⟨es, rfl, g⟩ := pd_lst e2
      rw [PyData.eqv, eqvA_iff us vs ds es hu hv f g]
      simp
    | tup vs => obtain ⟨es, rfl, g⟩ := pd_tup e2; simp [PyData.eqv]
    | non => cases e2; simp [PyData.eqv]
    | int _ => cases e2; simp [PyData.eqv]
    | str _ => cases e2; simp [PyData.eqv]
    | _ => simp [nbU] at hv
  | .bl _, _, _, _, h, _, _, _ => by simp [nbU] at h
  | .dct _ _, _, _, _, h, _, _, _ => by simp [nbU] at h
  | .dcT _ _, _, _, _, h, _, _, _ => by simp [nbU] at h
  | .obj _ _ _, _, _, _, h, _, _, _ => by simp [nbU] at h
  | .top _, _, _, _, h, _, _, _ => by simp [nbU] at h
  | .frl _, _, _, _, h, _, _, _ => by simp [nbU] at h
  | .loc _, _, _, _, h, _, _, _ => by simp [nbU] at h
theorem eqvA_iff : ∀ (us vs : List U) (ds es : List PyData), nbA us = true → nbA vs = true → pdAll us = some ds → pdAll vs = some es → (PyData.eqvAll ds es = true ↔ us = vs)
  | [], [], ds, es, _, _, e1, e2 => by cases e1; cases e2; simp [PyData.eqvAll]
  | [], v :: vs, ds, es, _, _, e1, e2 => by
    cases e1
    obtain ⟨d, r, rfl, _, _⟩ := pdAll_cons e2
    simp [PyData.eqvAll]
  | u :: us, [], ds, es, _, _, e1, e2 => by
    cases e2
    obtain ⟨d, r, rfl, _, _⟩ := pdAll_cons e1
    simp [PyData.eqvAll]
  | u :: us, v :: vs, ds, es, hu, hv, e1, e2 => by
    have hu : nbU u = true ∧ nbA us = true := by simpa [nbA] using hu
    have hv : nbU v = true ∧ nbA vs = true := by simpa [nbA] using hv
    obtain ⟨d, r, rfl, f1, f2⟩ := pdAll_cons e1
    obtain ⟨e, s, rfl, g1, g2⟩ := pdAll_cons e2
    rw [PyData.eqvAll, Bool.and_eq_true_iff, eqv_iff u v d e hu.1 hv.1 f1 g1, eqvA_iff us vs r s hu.2 hv.2 f2 g2]
    simp
end
theorem eqD_nb {u v : U} (hu : nbU u = true) (hv : nbU v = true) (du : dpU u ≤ 64) (dv : dpU v ≤ 64) {b : Bool} (hb : b = true ↔ u = v) : eqD u v = some (.bl b) := by
  obtain ⟨d, e⟩ := nb_pd u hu
  obtain ⟨d', e'⟩ := nb_pd v hv
  have h := eqv_iff u v d d' hu hv e.pd e'.pd
  have s1 : SeqAt.shaped d = true := by simp only [SeqAt.shaped, e.cl, e.dp, Bool.true_and]; exact decide_eq_true du
  have s2 : SeqAt.shaped d' = true := by simp only [SeqAt.shaped, e'.cl, e'.dp, Bool.true_and]; exact decide_eq_true dv
  unfold eqD
  rw [e.pd, e'.pd]
  have : PyData.eqv d d' = b := by rw [Bool.eq_iff_iff, h, hb]
  simp only [s1, s2, this, and_self, if_true]
theorem neD_nb {u v : U} (hu : nbU u = true) (hv : nbU v = true) (du : dpU u ≤ 64) (dv : dpU v ≤ 64) {b : Bool} (hb : b = true ↔ u = v) : neD u v = some (.bl (!b)) := by
  obtain ⟨d, e⟩ := nb_pd u hu
  obtain ⟨d', e'⟩ := nb_pd v hv
  have h := eqv_iff u v d d' hu hv e.pd e'.pd
  have s1 : SeqAt.shaped d = true := by simp only [SeqAt.shaped, e.cl, e.dp, Bool.true_and]; exact decide_eq_true du
  have s2 : SeqAt.shaped d' = true := by simp only [SeqAt.shaped, e'.cl, e'.dp, Bool.true_and]; exact decide_eq_true dv
  unfold neD
  rw [e.pd, e'.pd]
  have : PyData.eqv d d' = b := by rw [Bool.eq_iff_iff, h, hb]
  simp only [s1, s2, this, and_self, if_true]
theorem eqU_nb {u v : U} (hu : nbU u = true) (hv : nbU v = true) (du : dpU u ≤ 64) (dv : dpU v ≤ 64) {b : Bool} (hb : b = true ↔ u = v) : eqU u v = some (.bl b) := by
  cases u with
  | str x =>
    cases v with
    | str y => exact eqU_str (by rw [Bool.eq_iff_iff, hb]; simp)
    | _ => exact eqD_nb hu hv du dv hb
  | _ => exact eqD_nb hu hv du dv hb
theorem neU_nb {u v : U} (hu : nbU u = true) (hv : nbU v = true) (du : dpU u ≤ 64) (dv : dpU v ≤ 64) {b : Bool} (hb : b = true ↔ u = v) : neU u v = some (.bl (!b)) := by
  cases u with
  | str x =>
    cases v with
    | str y => exact neU_str (by congr 1; rw [Bool.eq_iff_iff, hb]; simp)
    | _ => exact neD_nb hu hv du dv hb
  | _ => exact neD_nb hu hv du dv hb
theorem smA_map {τ : Type} {c : τ → U} : ∀ {xs : List τ}, (∀ x ∈ xs, smU (c x) = true) → smA (xs.map c) = true
  | [], _ => rfl
  | x :: xs, h => by simp [smA, h x List.mem_cons_self, smA_map fun y m => h y (List.mem_cons_of_mem _ m)]
theorem nbA_map {τ : Type} {c : τ → U} : ∀ {xs : List τ}, (∀ x ∈ xs, nbU (c x) = true) → nbA (xs.map c) = true
  | [], _ => rfl
  | x :: xs, h => by simp [nbA, h x List.mem_cons_self, nbA_map fun y m => h y (List.mem_cons_of_mem _ m)]
theorem wtA_map {τ : Type} {c : τ → U} {k : Nat} : ∀ {xs : List τ}, (∀ x ∈ xs, wtU (c x) ≤ k) → wtA (xs.map c) ≤ xs.length * (k + 1)
  | [], _ => Nat.zero_le _
  | x :: xs, h => by
    have := wtA_map (xs := xs) fun y m => h y (List.mem_cons_of_mem _ m)
    have := h x List.mem_cons_self
    rw [List.map_cons, wtA, List.length_cons, Nat.add_mul]
    omega
theorem dpA_map {τ : Type} {c : τ → U} {k : Nat} : ∀ {xs : List τ}, (∀ x ∈ xs, dpU (c x) ≤ k) → dpA (xs.map c) ≤ k
  | [], _ => Nat.zero_le _
  | x :: xs, h => by
    have := dpA_map (xs := xs) fun y m => h y (List.mem_cons_of_mem _ m)
    have := h x List.mem_cons_self
    rw [List.map_cons, dpA]
    omega
theorem nb_ints (xs : List Int) : nbA (xs.map .int) = true := nbA_map fun _ _ => rfl
theorem dp_ints (xs : List Int) : dpA (xs.map .int) = 0 := Nat.le_zero.mp (dpA_map fun _ _ => Nat.le_refl 0)
end UX

set_option Elab.async false
set_option linter.all false
set_option maxRecDepth 100000
set_option maxHeartbeats 4000000
set_option autoImplicit false
namespace UX
open PySem PySem.Spec L2
section
variable {P : U → Prop} {i j : Int} {a b : List U} {x y : Str}
theorem wo_add_i (h : P (.int (i + j))) : WpO (addU (.int i) (.int j)) P := ⟨_, rfl, h⟩
theorem wo_add_t (l : a.length + b.length ≤ sizeLine) (h : P (.tup (a ++ b))) : WpO (addU (.tup a) (.tup b)) P := ⟨_, if_pos l, h⟩
theorem wo_sub (h : P (.int (i - j))) : WpO (subU (.int i) (.int j)) P := ⟨_, rfl, h⟩
theorem wo_mul (c : (-18446744073709551616 < i ∧ i < 18446744073709551616) ∨ (-18446744073709551616 < j ∧ j < 18446744073709551616)) (h : P (.int (i * j))) : WpO (mulU (.int i) (.int j)) P := ⟨_, if_pos c, h⟩
theorem wo_mod (c : j ≠ 0) (h : P (.int (i.fmod j))) : WpO (modU (.int i) (.int j)) P := ⟨_, if_pos c, h⟩
theorem wo_modp (c : 0 < j) (h : ∀ r : Int, r = i.fmod j → 0 ≤ r → r < j → P (.int r)) : WpO (modU (.int i) (.int j)) P := ⟨_, if_pos (by omega), h _ rfl (Int.fmod_nonneg_of_pos _ c) (Int.fmod_lt_of_pos _ c)⟩
theorem wo_fdiv (c : j ≠ 0) (c2 : j.natAbs < 1073741824) (h : P (.int (i.fdiv j))) : WpO (fdivU (.int i) (.int j)) P := ⟨_, if_pos ⟨c, c2⟩, h⟩
theorem wo_neg (h : P (.int (-i))) : WpO (negU (.int i)) P := ⟨_, rfl, h⟩
theorem wo_le (h : P (.bl (decide (i ≤ j)))) : WpO (leU (.int i) (.int j)) P := ⟨_, rfl, h⟩
theorem wo_lt (h : P (.bl (decide (i < j)))) : WpO (ltU (.int i) (.int j)) P := ⟨_, rfl, h⟩
theorem wo_gt (h : P (.bl (decide (j < i)))) : WpO (gtU (.int i) (.int j)) P := ⟨_, rfl, h⟩
theorem wo_ge (h : P (.bl (decide (j ≤ i)))) : WpO (geU (.int i) (.int j)) P := ⟨_, rfl, h⟩
theorem wo_eq_i (h : P (.bl (decide (i = j)))) : WpO (eqU (.int i) (.int j)) P := ⟨_, eqU_int i j, h⟩
theorem neU_i (i j : Int) : neU (.int i) (.int j) = some (.bl (!decide (i = j))) := neU_nb (u := .int i) (v := .int j) rfl rfl (Nat.zero_le _) (Nat.zero_le _) (b := decide (i = j)) (by simp)
theorem wo_ne_i (h : P (.bl (!decide (i = j)))) : WpO (neU (.int i) (.int j)) P := ⟨_, neU_i i j, h⟩
theorem wo_eq_s (h : P (.bl (decide (x = y)))) : WpO (eqU (.str x) (.str y)) P := ⟨_, rfl, h⟩
theorem wo_ne_s (h : P (.bl (!decide (x = y)))) : WpO (neU (.str x) (.str y)) P := ⟨_, rfl, h⟩
theorem wo_not {t : Bool} (h : P (.bl (!t))) : WpO (notU (.bl t)) P := ⟨_, rfl, h⟩
theorem wo_bool {t : Bool} {P : Bool → Prop} (h : P t) : WpO (boolU (.bl t)) P := ⟨_, rfl, h⟩
theorem wo_int {P : Int → Prop} (h : P i) : WpO (intU (.int i)) P := ⟨_, rfl, h⟩
theorem wo_len_t (h : P (.int a.length)) : WpO (lenU (.tup a)) P := ⟨_, rfl, h⟩
theorem wo_len_l (h : P (.int a.length)) : WpO (lenU (.lst a)) P := ⟨_, rfl, h⟩
theorem wo_len_f (h : P (.int a.length)) : WpO (lenU (.frl a)) P := ⟨_, rfl, h⟩
theorem wo_tuple_l (h : P (.tup a)) : WpO (tupleU (.lst a)) P := ⟨_, rfl, h⟩
theorem wo_tuple_t (h : P (.tup a)) : WpO (tupleU (.tup a)) P := ⟨_, rfl, h⟩
theorem wo_list_l (h : P (.lst a)) : WpO (listU (.lst a)) P := ⟨_, rfl, h⟩
theorem wo_list_t (h : P (.lst a)) : WpO (listU (.tup a)) P := ⟨_, rfl, h⟩
theorem wo_it_t {P : List U → Prop} (h : P a) : WpO (itU (.tup a)) P := ⟨_, rfl, h⟩
theorem wo_it_l {P : List U → Prop} (h : P a) : WpO (itU (.lst a)) P := ⟨_, rfl, h⟩
theorem wo_it_f {P : List U → Prop} (h : P a) : WpO (itU (.frl a)) P := ⟨_, rfl, h⟩
theorem wo_rng1 {P : List U → Prop} (c : -1000000000 < i ∧ i < 1000000000) (h : P ((List.range i.toNat).map fun i => .int (i : Nat))) : WpO (rng1U (.int i)) P := ⟨_, if_pos ⟨by omega, by omega⟩, h⟩
theorem wo_rng2 {P : List U → Prop} (c : -1000000000 < i ∧ i < 1000000000) (c2 : -1000000000 < j ∧ j < 1000000000) (h : P ((List.range (j - i).toNat).map fun k => .int (i + (k : Nat)))) : WpO (rng2U (.int i) (.int j)) P := ⟨_, if_pos ⟨⟨by omega, by omega⟩, ⟨by omega, by omega⟩⟩, h⟩
theorem atI_get {us : List U} {k : Nat} {u : U} (h : us[k]? = some u) : atI us (k : Int) = some u := by
  have hk : k < us.length := getElem?_lt h
  unfold atI ixN
  rw [if_pos (by omega), if_pos (by omega)]
  simpa using h
theorem wo_ix_t {u : U} (e : atI a i = some u) (h : P u) : WpO (ixU (.tup a) (.int i)) P := ⟨u, e, h⟩
theorem wo_ix_l {u : U} (e : atI a i = some u) (h : P u) : WpO (ixU (.lst a) (.int i)) P := ⟨u, e, h⟩
theorem wo_sl_t {l h' : Option Int} (h : P (.tup (EL.cut a l h'))) : WpO (slU (.tup a) l h') P := ⟨_, rfl, h⟩
theorem wo_sl_l {l h' : Option Int} (h : P (.lst (EL.cut a l h'))) : WpO (slU (.lst a) l h') P := ⟨_, rfl, h⟩
theorem wo_zip_tt {P : List U → Prop} (h : P (zipL a b)) : WpO (zipU (.tup a) (.tup b)) P := ⟨_, rfl, h⟩
theorem wo_app {h' : U → U} {u : U} {P : U × U → Prop} (l : a.length < sizeLine) (h : P (.non, h' (.lst (a ++ [u])))) : WpO (mutL appL (.lst a, h') [u]) P := ⟨_, by
  have e : appL a [u] = some (.non, a ++ [u]) := if_pos l
  show (appL a [u]).map _ = _
  rw [e]; rfl, h⟩
theorem wo_ext {h' : U → U} {P : U × U → Prop} (l : a.length + b.length ≤ sizeLine) (h : P (.non, h' (.lst (a ++ b)))) : WpO (mutL extL (.lst a, h') [.lst b]) P := ⟨_, by
  have e : extL a [.lst b] = some (.non, a ++ b) := if_pos l
  show (extL a [.lst b]).map _ = _
  rw [e]; rfl, h⟩
end
theorem wo_isObj {c m : Str} {u x : U} {P : U → Prop} (e : isObj c m u = some x) (h : P x) : WpO (isObj c m u) P := ⟨x, e, h⟩
theorem wo_fld {cs : List Str} {f : Str} {u x : U} {P : U → Prop} (e : fldU cs f u = some x) (h : P x) : WpO (fldU cs f u) P := ⟨x, e, h⟩
theorem if_nt {A B : Prop} (h : B) : IfP (!true) A B := h
theorem if_nf {A B : Prop} (h : A) : IfP (!false) A B := h
theorem lit_le {n : Nat} (h : Nat.ble n sizeLine = true) : n ≤ sizeLine := Nat.le_of_ble_eq_true h
end UX

set_option Elab.async false
set_option linter.all false
set_option maxRecDepth 100000
set_option maxHeartbeats 4000000
set_option autoImplicit false
namespace UX
open PySem PySem.Spec L2
section
variable {α S S' L : Type} {st : Sto} {Q : U → Sto → Prop} {QA : List U → Sto → Prop}
theorem vs_bind2 {Q : α → Sto → Prop} {w : M (U × U)} {k : U → U → M α} (h : Wp w st fun p s => Wp (k p.1 p.2) s Q) : Wp (.bind2 w k) st Q := .bind h
theorem vs_bindS {Q : α → Sto → Prop} {w : M (U × U)} {k : U → M α} (h : Wp w st fun p s => Wp (k p.2) s Q) : Wp (.bindS w k) st Q := .bind h
theorem vs_enum {w : M U} (h : Wp w st fun u s => WpO (enumU u) fun r => QA r s) : Wp (enumW w) st QA := .bind (h.mono fun _ _ h => vs_o h)
theorem vs_keys {w : M U} (h : Wp w st fun u s => WpO (keysL u) fun r => QA r s) : Wp (keysW w) st QA := .bind (h.mono fun _ _ h => vs_o h)
theorem vs_tupR {w : M (List U)} (h : Wp w st fun us s => us.length ≤ sizeLine ∧ Q (.tup us) s) : Wp (tupRW w) st Q := .bind (h.mono fun _ _ ⟨l, q⟩ => .o (if_pos l) q)
theorem vs_lstR {w : M (List U)} (h : Wp w st fun us s => us.length ≤ sizeLine ∧ Q (.lst us) s) : Wp (lstRW w) st Q := .bind (h.mono fun _ _ ⟨l, q⟩ => .o (if_pos l) q)
theorem vs_xitem {QX : U × U → Sto → Prop} {wd : M U} {wx : M (U × U)} (h : Wp wd st fun d s => Wp wx s fun p s => WpO (itemU d p.1) fun u => QX (u, p.2) s) : Wp (xitemM wd wx) st QX :=
  .bind (h.mono fun d _ h => .bind (h.mono fun p _ ⟨u, e, q⟩ => .o (by rw [e]; rfl) q))
theorem vs_itX {QX : List U × U → Sto → Prop} {w : M (U × U)} (h : Wp w st fun p s => WpO (itU p.1) fun us => QX (us, p.2) s) : Wp (itX w) st QX :=
  .bind (h.mono fun p _ ⟨u, e, q⟩ => .o (by rw [e]; rfl) q)
end
section
variable {P : U → Prop} {i j : Int} {a b : List U} {x y : Str}
theorem wo_ix0 {a : Int} {r : List Int} (h : P (.int a)) : WpO (ixU (tupI (a :: r)) (.int 0)) P := ⟨.int a, atI_get (us := (a :: r).map U.int) (k := 0) rfl, h⟩
theorem wo_ix1 {a b : Int} {r : List Int} (h : P (.int b)) : WpO (ixU (tupI (a :: b :: r)) (.int 1)) P := ⟨.int b, atI_get (us := (a :: b :: r).map U.int) (k := 1) rfl, h⟩
theorem wo_ix2 {a b c : Int} {r : List Int} (h : P (.int c)) : WpO (ixU (tupI (a :: b :: c :: r)) (.int 2)) P := ⟨.int c, atI_get (us := (a :: b :: c :: r).map U.int) (k := 2) rfl, h⟩
theorem wo_enum_t {P : List U → Prop} (h : P (enumL a)) : WpO (enumU (.tup a)) P := ⟨_, rfl, h⟩
theorem wo_enum_l {P : List U → Prop} (h : P (enumL a)) : WpO (enumU (.lst a)) P := ⟨_, rfl, h⟩
theorem fVs_ints : ∀ xs : List Int, fVs (xs.map .int) = some (xs.map V.int)
  | [] => rfl
  | x :: xs => by rw [List.map_cons, fVs, fVs_ints xs]; rfl
theorem inV_ints (i : Int) (xs : List Int) : inV (.int i) (xs.map V.int) = decide (i ∈ xs) := by
  unfold inV
  rw [List.any_map, Bool.eq_iff_iff, List.any_eq_true, decide_eq_true_eq]
  constructor
  · rintro ⟨z, m, e⟩
    have : z = i := by simpa [eqV] using e
    exact this ▸ m
  · intro m
    exact ⟨i, m, by simp [eqV]⟩
theorem inB_t (i : Int) (xs : List Int) : inB (.int i) (.tup (xs.map .int)) = some (decide (i ∈ xs)) := by
  show (fVs (xs.map .int)).map (fun vs => inV (.int i) vs) = _
  rw [fVs_ints, Option.map_some, inV_ints]
theorem inB_l (i : Int) (xs : List Int) : inB (.int i) (.lst (xs.map .int)) = some (decide (i ∈ xs)) := by
  show (fVs (xs.map .int)).map (fun vs => inV (.int i) vs) = _
  rw [fVs_ints, Option.map_some, inV_ints]
theorem wo_in_t {xs : List Int} (h : P (.bl (decide (i ∈ xs)))) : WpO (inSU (.int i) (.tup (xs.map .int))) P := ⟨_, by unfold inSU; rw [inB_t]; rfl, h⟩
theorem wo_in_l {xs : List Int} (h : P (.bl (decide (i ∈ xs)))) : WpO (inSU (.int i) (.lst (xs.map .int))) P := ⟨_, by unfold inSU; rw [inB_l]; rfl, h⟩
theorem wo_nin_t {xs : List Int} (h : P (.bl (!decide (i ∈ xs)))) : WpO (notInSU (.int i) (.tup (xs.map .int))) P := ⟨_, by unfold notInSU; rw [inB_t]; rfl, h⟩
theorem wo_nin_l {xs : List Int} (h : P (.bl (!decide (i ∈ xs)))) : WpO (notInSU (.int i) (.lst (xs.map .int))) P := ⟨_, by unfold notInSU; rw [inB_l]; rfl, h⟩
theorem eq_bl (s t : Bool) : eqU (.bl s) (.bl t) = some (.bl (s == t)) := by cases s <;> cases t <;> rfl
theorem ne_bl (s t : Bool) : neU (.bl s) (.bl t) = some (.bl (!(s == t))) := by cases s <;> cases t <;> rfl
theorem wo_eq_b {s t : Bool} (h : P (.bl (s == t))) : WpO (eqU (.bl s) (.bl t)) P := ⟨_, eq_bl s t, h⟩
theorem wo_ne_b {s t : Bool} (h : P (.bl (!(s == t)))) : WpO (neU (.bl s) (.bl t)) P := ⟨_, ne_bl s t, h⟩
end
section
variable {ν : Type} {vf : ν → U}
def keyI (x : List Int) : List Key := x.map Sum.inl
def dTU (vf : ν → U) (D : List (List Int × ν)) : U := .dcT (D.map fun p => keyI p.1) (D.map fun p => vf p.2)
theorem keysU_ints : ∀ x : List Int, keysU (x.map .int) = some (keyI x)
  | [] => rfl
  | i :: x => by rw [List.map_cons, keysU, keysU_ints x]; rfl
theorem tkey_tupI (x : List Int) : tkeyU (tupI x) = some (keyI x) := keysU_ints x
theorem keyI_inj : ∀ {x y : List Int}, keyI x = keyI y → x = y
  | [], [], _ => rfl
  | [], _ :: _, h => by simp [keyI] at h
  | _ :: _, [], h => by simp [keyI] at h
  | i :: x, j :: y, h => by
    have h : i = j ∧ x.map Sum.inl = (y.map Sum.inl : List Key) := by simpa [keyI] using h
    rw [h.1, keyI_inj (x := x) (y := y) h.2]
theorem idx_dT (x : List Int) : ∀ D : List (List Int × ν), match D.lookup x with
    | some v => ∃ j, idxK (keyI x) (D.map fun p => keyI p.1) = some j ∧ (D.map fun p => vf p.2)[j]? = some (vf v)
    | none => idxK (keyI x) (D.map fun p => keyI p.1) = none
  | [] => rfl
  | (k, v) :: D => by
    have ih := idx_dT x D
    rw [List.lookup_cons]
    by_cases h : x = k
    · subst h
      rw [show (x == x) = true from by simp]
      exact ⟨0, by rw [List.map_cons, idxK, if_pos rfl], rfl⟩
    · rw [show (x == k) = false from by simpa using h]
      have hk : ¬ keyI k = keyI x := fun e => h (keyI_inj e).symm
      cases e : D.lookup x with
      | none =>
        rw [e] at ih
        simp only at ih ⊢
        rw [List.map_cons, idxK, if_neg hk, ih]; rfl
      | some w =>
        rw [e] at ih
        simp only at ih ⊢
        obtain ⟨j, h1, h2⟩ := ih
        exact ⟨j + 1, by rw [List.map_cons, idxK, if_neg hk, h1]; rfl, by simpa using h2⟩
theorem getU_dT (x : List Int) (D : List (List Int × ν)) : getU (dTU vf D) (tupI x) = some ((D.lookup x).map vf) := by
  have h := idx_dT (vf := vf) x D
  unfold dTU
  simp only [getU, tkey_tupI]
  cases e : D.lookup x with
  | none => rw [e] at h; simp only at h; rw [h]; rfl
  | some v =>
    rw [e] at h
    obtain ⟨j, h1, h2⟩ := h
    simp only [h1, h2]
    rfl
theorem wo_dTin {x : List Int} {D : List (List Int × ν)} {P : U → Prop} (h : P (.bl (D.lookup x).isSome)) : WpO (inU (tupI x) (dTU vf D)) P := ⟨_, by unfold inU; rw [getU_dT]; simp, h⟩
theorem wo_dTnin {x : List Int} {D : List (List Int × ν)} {P : U → Prop} (h : P (.bl (!(D.lookup x).isSome))) : WpO (notInU (tupI x) (dTU vf D)) P := ⟨_, by unfold notInU; rw [getU_dT]; simp, h⟩
theorem wo_dTkeys {D : List (List Int × ν)} {P : List U → Prop} (h : P ((D.map Prod.fst).map tupI)) : WpO (keysL (dTU vf D)) P := ⟨_, by
  show some ((D.map fun p => keyI p.1).map fun k => U.tup (k.map kU)) = _
  rw [List.map_map, List.map_map]
  congr 1
  refine List.map_congr_left fun p _ => ?_
  simp only [Function.comp_apply, tupI, keyI, List.map_map]
  congr 1, h⟩
end
theorem nodup_len : ∀ (n : Nat) (l : List Int), l.Nodup → (∀ x ∈ l, 0 ≤ x ∧ x < (n : Int)) → l.length ≤ n
  | 0, [], _, _ => Nat.le_refl _
  | 0, x :: l, _, h => by have := h x List.mem_cons_self; omega
  | n + 1, l, nd, h => by
    have hs : (l.erase (n : Int)).length ≤ n := nodup_len n _ (nd.erase _) fun x m => by
      have h1 := h x (List.mem_of_mem_erase m)
      have h2 : x ≠ (n : Int) := fun e => by subst e; exact nd.not_mem_erase m
      omega
    have : l.length ≤ (l.erase (n : Int)).length + 1 := by
      rw [List.length_erase]
      split <;> omega
    omega
end UX

set_option Elab.async false
set_option linter.all false
set_option maxRecDepth 100000
set_option maxHeartbeats 4000000
set_option autoImplicit false
namespace UX
open PySem PySem.Spec L2
section
variable {st : Sto} {Q : U → Sto → Prop}
end
end UX

set_option Elab.async false
set_option linter.all false
set_option maxRecDepth 100000
set_option maxHeartbeats 4000000
set_option autoImplicit false
namespace UX
open PySem PySem.Spec L2
section
variable {st : Sto} {Q : U → Sto → Prop}
end
end UX

set_option Elab.async false
set_option linter.all false
set_option maxRecDepth 100000
set_option maxHeartbeats 4000000
set_option autoImplicit false
namespace UX
open PySem PySem.Spec L2
section
variable {st : Sto} {Q : U → Sto → Prop}
end
end UX

set_option Elab.async false
set_option linter.all false
set_option maxRecDepth 100000
set_option maxHeartbeats 4000000
set_option autoImplicit false
namespace UX
open PySem PySem.Spec L2
section
variable {τ : Type} [DecidableEq τ] (f : τ → U)
structure KeyF : Prop where
  inj : ∀ x y, nkU (f x) = nkU (f y) → x = y
  ok : ∀ x, ∃ k, nk8 (f x) = some k
  tup : ∀ x, ∃ us, f x = .tup us
end
section
variable {τ : Type} [DecidableEq τ] {f : τ → U}
def lkN (D : List (τ × U)) (x : τ) : Option U := (D.find? fun p => decide (p.1 = x)).map (·.2)
def insN (D : List (τ × U)) (x : τ) (v : U) : List (τ × U) := if x ∈ D.map (·.1) then D.map fun p => if p.1 = x then (p.1, v) else p else D ++ [(x, v)]
def dN (f : τ → U) (D : List (τ × U)) : U := .dcN (D.map fun p => f p.1) (D.map (·.2))
theorem lkN_none {x : τ} : ∀ {D : List (τ × U)}, lkN D x = none ↔ x ∉ D.map (·.1)
  | [] => by simp [lkN]
  | p :: D => by
    have ih := lkN_none (x := x) (D := D)
    by_cases c : p.1 = x
    · simp [lkN, List.find?_cons, c]
    · have : lkN (p :: D) x = lkN D x := by simp [lkN, List.find?_cons, c]
      rw [this, ih, List.map_cons, List.mem_cons]
      exact ⟨fun h z => z.elim (fun z => c z.symm) h, fun h z => h (.inr z)⟩
theorem lkN_mem {x : τ} {v : U} : ∀ {D : List (τ × U)}, lkN D x = some v → (x, v) ∈ D
  | [], e => by cases e
  | p :: D, e => by
    by_cases c : p.1 = x
    · have : lkN (p :: D) x = some p.2 := by simp [lkN, List.find?_cons, c]
      rw [this] at e
      cases e
      rw [← c]; exact List.mem_cons_self
    · have : lkN (p :: D) x = lkN D x := by simp [lkN, List.find?_cons, c]
      rw [this] at e
      exact List.mem_cons_of_mem _ (lkN_mem e)
theorem nk_key (K : KeyF f) (x : τ) : ∃ k us, nk8 (f x) = some k ∧ nkU (f x) = some k ∧ f x = .tup us := by
  obtain ⟨k, e⟩ := K.ok x
  obtain ⟨us, e2⟩ := K.tup x
  exact ⟨k, us, e, (nk8_ok e).1, e2⟩
theorem idxN_dN (K : KeyF f) {x : τ} {k : NestedKey} (e : nkU (f x) = some k) : ∀ {D : List (τ × U)}, (idxN k (D.map fun p => f p.1) = none ∧ lkN D x = none) ∨
    ∃ j v, idxN k (D.map fun p => f p.1) = some j ∧ lkN D x = some v ∧ (D.map (·.2))[j]? = some v ∧ ∀ w, (D.map (·.1)).Nodup → (D.map fun p => if p.1 = x then (p.1, w) else p).map (fun p => f p.1) = D.map (fun p => f p.1) ∧ (D.map fun p => if p.1 = x then (p.1, w) else p).map (·.2) = (D.map (·.2)).set j w
  | [] => .inl ⟨rfl, rfl⟩
  | p :: D => by
    by_cases c : p.1 = x
    · right
      refine ⟨0, p.2, ?_, by simp [lkN, List.find?_cons, c], rfl, fun w nd => ?_⟩
      · rw [List.map_cons, idxN, if_pos (by rw [c]; exact e)]
      · have nd' := List.nodup_cons.mp (show (p.1 :: D.map (·.1)).Nodup from nd)
        have same : (D.map fun p => if p.1 = x then (p.1, w) else p) = D := by
          have : (D.map fun p => if p.1 = x then (p.1, w) else p) = D.map id := List.map_congr_left fun q m => if_neg fun z => nd'.1 (by rw [c, ← z]; exact List.mem_map_of_mem (f := (·.1)) m)
          rw [this, List.map_id]
        rw [List.map_cons, if_pos c, same]
        exact ⟨rfl, rfl⟩
    · have ne : ¬ nkU (f p.1) = some k := fun z => c (K.inj _ _ (z.trans e.symm))
      have h1 : idxN k ((p :: D).map fun p => f p.1) = (idxN k (D.map fun p => f p.1)).map (· + 1) := by rw [List.map_cons, idxN, if_neg ne]
      have h2 : lkN (p :: D) x = lkN D x := by simp [lkN, List.find?_cons, c]
      rw [h1, h2]
      rcases idxN_dN K e (D := D) with ⟨h3, h4⟩ | ⟨j, v, h3, h4, h5, h6⟩
      · exact .inl ⟨by rw [h3]; rfl, h4⟩
      · refine .inr ⟨j + 1, v, by rw [h3]; rfl, h4, by simpa using h5, fun w nd => ?_⟩
        have nd' := List.nodup_cons.mp (show (p.1 :: D.map (·.1)).Nodup from nd)
        obtain ⟨h7, h8⟩ := h6 w nd'.2
        rw [List.map_cons, if_neg c, List.map_cons, List.map_cons, List.map_cons, List.map_cons, h7, h8]
        exact ⟨rfl, rfl⟩
theorem nk8s_map (K : KeyF f) : ∀ xs : List τ, ∃ ks : List NestedKey, nk8s (xs.map f) = some ks ∧ ks.map some = xs.map fun x => nkU (f x)
  | [] => ⟨[], rfl, rfl⟩
  | x :: xs => by
    obtain ⟨ks, e1, e2⟩ := nk8s_map K xs
    obtain ⟨k, us, h1, h2, _⟩ := nk_key K x
    exact ⟨k :: ks, by rw [List.map_cons, nk8s, h1, e1], by rw [List.map_cons, List.map_cons, e2, h2]⟩
theorem ndN_map (K : KeyF f) {xs : List τ} (nd : xs.Nodup) : ndN (xs.map f) = true := by
  obtain ⟨ks, e1, e2⟩ := nk8s_map K xs
  unfold ndN
  rw [e1]
  refine decide_eq_true ?_
  have : (ks.map some).Nodup := by
    rw [e2]
    unfold List.Nodup at nd ⊢
    rw [List.pairwise_map]
    exact nd.imp fun h z => h (K.inj _ _ z)
  unfold List.Nodup at this ⊢
  rw [List.pairwise_map] at this
  exact this.imp fun h z => h (by rw [z])
theorem putN_dN (K : KeyF f) {D : List (τ × U)} {x : τ} {v : U} (nd : (D.map (·.1)).Nodup) (l : D.length < sizeLine) : putNU (dN f D) (f x) v = some (dN f (insN D x v)) := by
  obtain ⟨k, us, e1, e2, e3⟩ := nk_key K x
  have hn : ndN (D.map fun p => f p.1) = true := by
    have := ndN_map K nd
    rwa [List.map_map] at this
  unfold putNU dN
  simp only [List.length_map]
  rw [if_pos ⟨l, hn⟩, e1]
  unfold insN
  rcases idxN_dN K e2 (D := D) with ⟨h3, h4⟩ | ⟨j, w, h3, h4, h5, h6⟩
  · rw [if_neg (lkN_none.mp h4)]
    simp only [e3, h3]
    rw [List.map_append, List.map_append, ← e3]; rfl
  · rw [if_pos (List.mem_map_of_mem (f := (·.1)) (lkN_mem h4))]
    obtain ⟨h7, h8⟩ := h6 v nd
    simp only [e3, h3]
    rw [h7, h8]
def sN (f : τ → U) (xs : List τ) : U := dN f (xs.map fun x => (x, .bl true))
theorem sN_keys (xs : List τ) : ((xs.map fun x => (x, U.bl true)).map (·.1)) = xs := by
  rw [List.map_map]
  exact List.map_id' xs
theorem putN_sN (K : KeyF f) {xs : List τ} {x : τ} (nd : xs.Nodup) (l : xs.length < sizeLine) : putNU (sN f xs) (f x) (.bl true) = some (sN f (if x ∈ xs then xs else xs ++ [x])) := by
  unfold sN
  rw [putN_dN K (by rw [sN_keys]; exact nd) (by rw [List.length_map]; exact l)]
  unfold insN
  rw [sN_keys]
  by_cases h : x ∈ xs
  · rw [if_pos h, if_pos h, List.map_map]
    congr 2
    refine List.map_congr_left fun y m => ?_
    show (if y = x then (y, U.bl true) else (y, U.bl true)) = _
    split <;> rfl
  · rw [if_neg h, if_neg h, List.map_append]; rfl
theorem keysN_dN (K : KeyF f) (D : List (τ × U)) : keysN (dN f D) = some ((D.map (·.1)).map f) := by
  unfold keysN dN
  have : (D.map fun p => f p.1).all isTupU = true := by
    rw [List.all_eq_true]
    intro u m
    obtain ⟨p, _, rfl⟩ := List.mem_map.mp m
    obtain ⟨us, e⟩ := K.tup p.1
    rw [e]; rfl
  simp only
  rw [if_pos this, List.map_map]; rfl
theorem keysN_sN (K : KeyF f) (xs : List τ) : keysN (sN f xs) = some (xs.map f) := by
  unfold sN
  rw [keysN_dN K, sN_keys]
theorem disp1N_at (K : KeyF f) {x : τ} {v : U} : disp1NU (f x) v = some (dN f [(x, v)]) := by
  obtain ⟨k, us, e1, e2, e3⟩ := nk_key K x
  unfold disp1NU
  rw [e1]
  simp only [e3]
  unfold dN
  rw [← e3]; rfl
end
section
variable {α S L : Type} {st : Sto} {QA : List U → Sto → Prop}
theorem vs_keysN {w : M U} (h : Wp w st fun u s => WpO (keysN u) fun r => QA r s) : Wp (keysNW w) st QA := .bind (h.mono fun _ _ h => vs_o h)
theorem vs_un22 {Q : α → Sto → Prop} {a b c d : U} {k : U → U → U → U → M α} (h : Wp (k a b c d) st Q) : Wp (un22 (.tup [.tup [a, b], .tup [c, d]]) k) st Q := h
theorem vs_un21 {Q : α → Sto → Prop} {a b c : U} {k : U → U → U → M α} (h : Wp (k a b c) st Q) : Wp (un21 (.tup [.tup [a, b], c]) k) st Q := h
end
end UX

set_option Elab.async false
set_option linter.all false
set_option maxRecDepth 100000
set_option maxHeartbeats 4000000
set_option autoImplicit false
namespace EK
open PySem PySem.Spec PyProof.Rows L2 UX UY
open EL (op_addK op_mulK op_eqK op_neK op_ltK sl_seqK ix_seqK op_inK op_notInK call_lenK call_tupleK call_listK call_isiK call_reprK cr_anyK cr_allK pi_seqK pi_listK pe_callG FnG rm66 op_inDK op_notInDK)
def top (i : Nat) : Stmt := PySem.Challenge.pw_endlesshall_k25_steps_of_one_letter_more.main.body.getD i (.Pass ⟨0, 0, 0, 0⟩)
def inn (i j : Nat) : Stmt := match top i with
  | .ClassDef _ _ _ b _ _ _ _ _ _ _ => b.getD j (.Pass ⟨0, 0, 0, 0⟩)
  | _ => .Pass ⟨0, 0, 0, 0⟩

def tab_KINDS : List (Str × U) := [("again", .top "are_rooms"), ("at last", .top "are_rooms"), ("pairs", .top "are_pairs"), ("ranks", .top "are_ranks")]
namespace HD
def mkD (x : Str) (i : Nat) : He.DefD := ⟨(x, none), x, x, defArgs (top i), defBody (top i), defScope (top i), [], []⟩
def mkMt (c m q : Str) (i j : Nat) : He.DefD := ⟨(c, some m), m, q, defArgs (inn i j), defBody (inn i j), defScope (inn i j), [], []⟩
def fn : List He.DefD := [mkD "_law_box" 30, mkD "_law_take" 31, mkD "_law_kind_by" 32, mkD "_law_parts" 33, mkD "are_rising" 7, mkD "is_whole" 5, mkD "is_below" 6, mkD "are_rising_below" 8, mkD "are_rooms" 13, mkD "are_pairs" 12, mkD "are_ranks" 14, mkD "are_ways" 11, mkD "fault_of" 17, mkMt "Hall" "__init__" "Hall.__init__" 21 0, mkD "_law_made" 34, mkMt "Hall" "ends" "Hall.ends" 21 1, mkMt "Strides" "entered" "Strides.entered" 26 1, mkMt "Strides" "onward" "Strides.onward" 26 2, mkMt "Strides" "along" "Strides.along" 26 3, mkD "pairs_of_ranks" 23, mkD "pairs_of" 24, mkMt "Strides" "__init__" "Strides.__init__" 26 0, mkD "step_of" 27, mkD "step_on" 28, mkD "_law_pairs" 35, mkD "_law_bits" 38, mkD "_law_entered" 37, mkD "_law_stepped" 36, mkD "law" 39]
def fa : List He.Fa := [.glo "_law_box", .glo "_law_take", .glo "_law_kind_by", .glo "_law_parts", .glo "are_rising", .glo "is_whole", .glo "is_below", .glo "are_rising_below", .glo "are_rooms", .glo "are_pairs", .glo "are_ranks", .glo "are_ways", .glo "fault_of", .glo "_law_made", .glo "pairs_of_ranks", .glo "pairs_of", .glo "step_of", .glo "step_on", .glo "_law_pairs", .glo "_law_bits", .glo "_law_entered", .glo "_law_stepped", .glo "law", .free "abs", .free "all", .free "any", .free "bool", .free "enumerate", .free "int", .free "isinstance", .free "len", .free "list", .free "min", .free "range", .free "repr", .free "set", .free "sorted", .free "str", .free "sum", .free "tuple", .free "zip", .glo "Hall", .cls "Hall", .mkr "Hall", .glo "Strides", .cls "Strides", .mkr "Strides", .meth "Hall" "ends", .meth "Strides" "entered", .meth "Strides" "onward", .meth "Strides" "along", .noat "Strides" "walked", .noat "Strides" "staying", .noat "Strides" "rising", .noat "Strides" "marks", .noat "Hall" "letters", .noat "Hall" "rooms", .noat "Hall" "start", .noat "Hall" "ways", .noat "Hall" "kind", .noat "Hall" "by", .noat "Hall" "goals", .glo "KINDS", .int "MOST_LETTERS" 4]
def ts : List He.Tab := [(fun K => He.ga K "KINDS", ["again", "at last", "pairs", "ranks"])]
def vls : List Vls := [(fun K => He.ga K "KINDS", tab_KINDS.map fun p => (p.1, dvU p.2))]
def names0 : List PySem.Str := ["_wall", "HallError", "NoHall", "is_whole", "is_below", "are_rising", "are_rising_below", "MOST_LETTERS", "are_ways", "are_pairs", "are_rooms", "are_ranks", "KINDS", "WORDS", "fault_of", "joined", "by_rows", "pair_row", "Hall", "pairs_of_ranks", "pairs_of", "Strides", "step_of", "step_on", "_law_box", "_law_take", "_law_kind_by", "_law_parts", "_law_made", "_law_pairs"]
def names1 : List PySem.Str := ["_law_stepped", "_law_entered", "_law_bits"]
abbrev Rw : PySem.W.OpenRow := PySem.W.OpenLaw.row PySem.Challenge.rw_endlesshall_k25_steps_of_one_letter_more
abbrev hk : PySem.W.Hook := hookU 6 fa fn ts vls
def ob (s : PySem.W.SharedT) : AlU := obsUG 6 fa fn ts vls (HandSHeadRun.getT s)
theorem ob_eq (s : PySem.W.SharedT) : ob s = hk.obs s.abs := obsUG_eq (HandSHeadRun.getT_eq s)
def names : List PySem.Str := names0 ++ names1
theorem run (w : World) : HandSHeadRun.RunEq Rw (PySem.W.view Rw.prog [39]) hk ob 6000 names w := PySem.W.byRow2 "special-get-raises" (P := fun w => HandSHeadRun.RunEq Rw (PySem.W.view Rw.prog [39]) hk ob 6000 names w) (fun w os => by kernel_rfl) (fun w os => by kernel_rfl) w
end HD
abbrev s__law_box : Stmt := top 30
abbrev N__law_box : List Str := ["_law_script", "_law_k", "_law_cell", "_law_mixed"]
theorem sc__law_box : FnScope N__law_box ["_law_script", "_law_k"] (defScope s__law_box) := ⟨rfl, rfl, rfl, by decide +kernel, rfl, by decide +kernel, by decide +kernel⟩

abbrev s__law_take : Stmt := top 31
abbrev N__law_take : List Str := ["_law_box_here", "_law_many", "_law_digit", "_law_mixed"]
theorem sc__law_take : FnScope N__law_take ["_law_box_here", "_law_many"] (defScope s__law_take) := ⟨rfl, rfl, rfl, by decide +kernel, rfl, by decide +kernel, by decide +kernel⟩

abbrev s__law_kind_by : Stmt := top 32
abbrev N__law_kind_by : List Str := ["_law_box_here", "_law_rooms", "_law_which", "_law_more", "_law_turn", "_law_signs", "_law_never", "_law_room"]
theorem sc__law_kind_by : FnScope N__law_kind_by ["_law_box_here", "_law_rooms"] (defScope s__law_kind_by) := ⟨rfl, rfl, rfl, by decide +kernel, rfl, by decide +kernel, by decide +kernel⟩

abbrev s__law_parts : Stmt := top 33
abbrev N__law_parts : List Str := ["_law_box_here", "_law_letters", "_law_rooms", "_law_dense", "_law_lone", "_law_ways", "_law_room", "_law_letter", "_law_first", "_law_named", "_law_marked", "_law_end"]
theorem sc__law_parts : FnScope N__law_parts ["_law_box_here", "_law_letters", "_law_rooms"] (defScope s__law_parts) := ⟨rfl, rfl, rfl, by decide +kernel, rfl, by decide +kernel, by decide +kernel⟩

abbrev s_are_rising : Stmt := top 7
abbrev N_are_rising : List Str := ["some", "one", "other"]
theorem sc_are_rising : FnScope N_are_rising ["some"] (defScope s_are_rising) := ⟨rfl, rfl, rfl, by decide +kernel, rfl, by decide +kernel, by decide +kernel⟩

abbrev s_is_whole : Stmt := top 5
abbrev N_is_whole : List Str := ["thing"]
theorem sc_is_whole : FnScope N_is_whole ["thing"] (defScope s_is_whole) := ⟨rfl, rfl, rfl, by decide +kernel, rfl, by decide +kernel, by decide +kernel⟩

abbrev s_is_below : Stmt := top 6
abbrev N_is_below : List Str := ["thing", "many"]
theorem sc_is_below : FnScope N_is_below ["thing", "many"] (defScope s_is_below) := ⟨rfl, rfl, rfl, by decide +kernel, rfl, by decide +kernel, by decide +kernel⟩

abbrev s_are_rising_below : Stmt := top 8
abbrev N_are_rising_below : List Str := ["thing", "many", "one"]
theorem sc_are_rising_below : FnScope N_are_rising_below ["thing", "many"] (defScope s_are_rising_below) := ⟨rfl, rfl, rfl, by decide +kernel, rfl, by decide +kernel, by decide +kernel⟩

abbrev s_are_rooms : Stmt := top 13
abbrev N_are_rooms : List Str := ["rooms", "thing"]
theorem sc_are_rooms : FnScope N_are_rooms ["rooms", "thing"] (defScope s_are_rooms) := ⟨rfl, rfl, rfl, by decide +kernel, rfl, by decide +kernel, by decide +kernel⟩

abbrev s_are_pairs : Stmt := top 12
abbrev N_are_pairs : List Str := ["rooms", "thing", "pair", "part"]
theorem sc_are_pairs : FnScope N_are_pairs ["rooms", "thing"] (defScope s_are_pairs) := ⟨rfl, rfl, rfl, by decide +kernel, rfl, by decide +kernel, by decide +kernel⟩

abbrev s_are_ranks : Stmt := top 14
abbrev N_are_ranks : List Str := ["rooms", "thing", "one"]
theorem sc_are_ranks : FnScope N_are_ranks ["rooms", "thing"] (defScope s_are_ranks) := ⟨rfl, rfl, rfl, by decide +kernel, rfl, by decide +kernel, by decide +kernel⟩

abbrev s_are_ways : Stmt := top 11
abbrev N_are_ways : List Str := ["letters", "rooms", "thing", "way"]
theorem sc_are_ways : FnScope N_are_ways ["letters", "rooms", "thing"] (defScope s_are_ways) := ⟨rfl, rfl, rfl, by decide +kernel, rfl, by decide +kernel, by decide +kernel⟩

abbrev s_fault_of : Stmt := top 17
abbrev N_fault_of : List Str := ["letters", "rooms", "start", "ways", "kind", "by", "looked"]
theorem sc_fault_of : FnScope N_fault_of ["letters", "rooms", "start", "ways", "kind", "by"] (defScope s_fault_of) := ⟨rfl, rfl, rfl, by decide +kernel, rfl, by decide +kernel, by decide +kernel⟩

abbrev s_Hall___init__ : Stmt := inn 21 0
abbrev N_Hall___init__ : List Str := ["self", "letters", "rooms", "start", "ways", "kind", "by", "why", "room", "letter", "end"]
theorem sc_Hall___init__ : FnScope N_Hall___init__ ["self", "letters", "rooms", "start", "ways", "kind", "by"] (defScope s_Hall___init__) := ⟨rfl, rfl, rfl, by decide +kernel, rfl, by decide +kernel, by decide +kernel⟩

abbrev s__law_made : Stmt := top 34
abbrev N__law_made : List Str := ["_law_parts_here"]
theorem sc__law_made : FnScope N__law_made ["_law_parts_here"] (defScope s__law_made) := ⟨rfl, rfl, rfl, by decide +kernel, rfl, by decide +kernel, by decide +kernel⟩

abbrev s_Hall_ends : Stmt := inn 21 1
abbrev N_Hall_ends : List Str := ["self", "room", "letter"]
theorem sc_Hall_ends : FnScope N_Hall_ends ["self", "room", "letter"] (defScope s_Hall_ends) := ⟨rfl, rfl, rfl, by decide +kernel, rfl, by decide +kernel, by decide +kernel⟩

abbrev s_Strides_entered : Stmt := inn 26 1
abbrev N_Strides_entered : List Str := ["self", "bits", "room", "held"]
theorem sc_Strides_entered : FnScope N_Strides_entered ["self", "bits", "room"] (defScope s_Strides_entered) := ⟨rfl, rfl, rfl, by decide +kernel, rfl, by decide +kernel, by decide +kernel⟩

abbrev s_Strides_onward : Stmt := inn 26 2
abbrev N_Strides_onward : List Str := ["self", "step", "letter", "found", "row", "ends", "room", "bits", "end"]
theorem sc_Strides_onward : FnScope N_Strides_onward ["self", "step", "letter"] (defScope s_Strides_onward) := ⟨rfl, rfl, rfl, by decide +kernel, rfl, by decide +kernel, by decide +kernel⟩

abbrev s_Strides_along : Stmt := inn 26 3
abbrev N_Strides_along : List Str := ["self", "some", "whole", "rooms", "step", "letter", "room", "end"]
theorem sc_Strides_along : FnScope N_Strides_along ["self", "some"] (defScope s_Strides_along) := ⟨rfl, rfl, rfl, by decide +kernel, rfl, by decide +kernel, by decide +kernel⟩

abbrev s_pairs_of_ranks : Stmt := top 23
abbrev N_pairs_of_ranks : List Str := ["ranks", "found", "rank", "never", "one", "room"]
theorem sc_pairs_of_ranks : FnScope N_pairs_of_ranks ["ranks"] (defScope s_pairs_of_ranks) := ⟨rfl, rfl, rfl, by decide +kernel, rfl, by decide +kernel, by decide +kernel⟩

abbrev s_pairs_of : Stmt := top 24
abbrev N_pairs_of : List Str := ["hall", "rooms", "room"]
theorem sc_pairs_of : FnScope N_pairs_of ["hall"] (defScope s_pairs_of) := ⟨rfl, rfl, rfl, by decide +kernel, rfl, by decide +kernel, by decide +kernel⟩

abbrev s_Strides___init__ : Stmt := inn 26 0
abbrev N_Strides___init__ : List Str := ["self", "hall", "never", "often", "mark", "room"]
theorem sc_Strides___init__ : FnScope N_Strides___init__ ["self", "hall"] (defScope s_Strides___init__) := ⟨rfl, rfl, rfl, by decide +kernel, rfl, by decide +kernel, by decide +kernel⟩

abbrev s_step_of : Stmt := top 27
abbrev N_step_of : List Str := ["hall", "some"]
theorem sc_step_of : FnScope N_step_of ["hall", "some"] (defScope s_step_of) := ⟨rfl, rfl, rfl, by decide +kernel, rfl, by decide +kernel, by decide +kernel⟩

abbrev s_step_on : Stmt := top 28
abbrev N_step_on : List Str := ["hall", "step", "letter"]
theorem sc_step_on : FnScope N_step_on ["hall", "step", "letter"] (defScope s_step_on) := ⟨rfl, rfl, rfl, by decide +kernel, rfl, by decide +kernel, by decide +kernel⟩

abbrev s__law_pairs : Stmt := top 35
abbrev N__law_pairs : List Str := ["_law_parts_here", "_law_every", "_law_marked", "_law_found", "_law_rank", "_law_above", "_law_room", "_law_one"]
theorem sc__law_pairs : FnScope N__law_pairs ["_law_parts_here"] (defScope s__law_pairs) := ⟨rfl, rfl, rfl, by decide +kernel, rfl, by decide +kernel, by decide +kernel⟩

abbrev s__law_bits : Stmt := top 38
abbrev N__law_bits : List Str := ["_law_ways", "_law_room", "_law_many", "_law_here", "_law_bits_here", "_law_worth", "_law_k", "_law_end", "_law_signs"]
theorem sc__law_bits : FnScope N__law_bits ["_law_ways", "_law_room", "_law_many"] (defScope s__law_bits) := ⟨rfl, rfl, rfl, by decide +kernel, rfl, by decide +kernel, by decide +kernel⟩

abbrev s__law_entered : Stmt := top 37
abbrev N__law_entered : List Str := ["_law_pairs_here", "_law_signs", "_law_end", "_law_found", "_law_never", "_law_often", "_law_free", "_law_seen"]
theorem sc__law_entered : FnScope N__law_entered ["_law_pairs_here", "_law_signs", "_law_end"] (defScope s__law_entered) := ⟨rfl, rfl, rfl, by decide +kernel, rfl, by decide +kernel, by decide +kernel⟩

abbrev s__law_stepped : Stmt := top 36
abbrev N__law_stepped : List Str := ["_law_parts_here", "_law_some", "_law_pairs_here", "_law_found", "_law_room", "_law_here", "_law_letter", "_law_there", "_law_at", "_law_signs", "_law_begin", "_law_named", "_law_end"]
theorem sc__law_stepped : FnScope N__law_stepped ["_law_parts_here", "_law_some"] (defScope s__law_stepped) := ⟨rfl, rfl, rfl, by decide +kernel, rfl, by decide +kernel, by decide +kernel⟩

abbrev s_law : Stmt := top 39
abbrev N_law : List Str := ["_law_script", "_law_k", "_law_box_here", "_law_parts_here", "_law_hall", "_law_turn", "_law_some", "_law_step", "_law_kept", "_law_letter", "_law_found", "_law_place"]
theorem sc_law : FnScope N_law ["_law_script"] (defScope s_law) := ⟨rfl, rfl, rfl, by decide +kernel, rfl, by decide +kernel, by decide +kernel⟩

structure En (w : World) (K : PySem.W.Frag) (mg : Str → Option Value) where
  m_abs : mg "abs" = none
  m_all : mg "all" = none
  m_any : mg "any" = none
  m_bool : mg "bool" = none
  m_enumerate : mg "enumerate" = none
  m_int : mg "int" = none
  m_isinstance : mg "isinstance" = none
  m_len : mg "len" = none
  m_list : mg "list" = none
  m_min : mg "min" = none
  m_range : mg "range" = none
  m_repr : mg "repr" = none
  m_set : mg "set" = none
  m_sorted : mg "sorted" = none
  m_str : mg "str" = none
  m_sum : mg "sum" = none
  m_tuple : mg "tuple" = none
  m_zip : mg "zip" = none
  fd__law_box : FuncData
  F__law_box : FunD K "_law_box" "_law_box" (defArgs s__law_box) (defBody s__law_box) (defScope s__law_box) [] [] (He.ga K "_law_box") fd__law_box
  g__law_box : mg "_law_box" = some (.ref (He.ga K "_law_box"))
  b__law_box : Binds K fd__law_box ["_law_script", "_law_k"] []
  fd__law_take : FuncData
  F__law_take : FunD K "_law_take" "_law_take" (defArgs s__law_take) (defBody s__law_take) (defScope s__law_take) [] [] (He.ga K "_law_take") fd__law_take
  g__law_take : mg "_law_take" = some (.ref (He.ga K "_law_take"))
  b__law_take : Binds K fd__law_take ["_law_box_here", "_law_many"] []
  fd__law_kind_by : FuncData
  F__law_kind_by : FunD K "_law_kind_by" "_law_kind_by" (defArgs s__law_kind_by) (defBody s__law_kind_by) (defScope s__law_kind_by) [] [] (He.ga K "_law_kind_by") fd__law_kind_by
  g__law_kind_by : mg "_law_kind_by" = some (.ref (He.ga K "_law_kind_by"))
  b__law_kind_by : Binds K fd__law_kind_by ["_law_box_here", "_law_rooms"] []
  fd__law_parts : FuncData
  F__law_parts : FunD K "_law_parts" "_law_parts" (defArgs s__law_parts) (defBody s__law_parts) (defScope s__law_parts) [] [] (He.ga K "_law_parts") fd__law_parts
  g__law_parts : mg "_law_parts" = some (.ref (He.ga K "_law_parts"))
  b__law_parts : Binds K fd__law_parts ["_law_box_here", "_law_letters", "_law_rooms"] []
  fd_are_rising : FuncData
  F_are_rising : FunD K "are_rising" "are_rising" (defArgs s_are_rising) (defBody s_are_rising) (defScope s_are_rising) [] [] (He.ga K "are_rising") fd_are_rising
  g_are_rising : mg "are_rising" = some (.ref (He.ga K "are_rising"))
  b_are_rising : Binds K fd_are_rising ["some"] []
  fd_is_whole : FuncData
  F_is_whole : FunD K "is_whole" "is_whole" (defArgs s_is_whole) (defBody s_is_whole) (defScope s_is_whole) [] [] (He.ga K "is_whole") fd_is_whole
  g_is_whole : mg "is_whole" = some (.ref (He.ga K "is_whole"))
  b_is_whole : Binds K fd_is_whole ["thing"] []
  fd_is_below : FuncData
  F_is_below : FunD K "is_below" "is_below" (defArgs s_is_below) (defBody s_is_below) (defScope s_is_below) [] [] (He.ga K "is_below") fd_is_below
  g_is_below : mg "is_below" = some (.ref (He.ga K "is_below"))
  b_is_below : Binds K fd_is_below ["thing", "many"] []
  fd_are_rising_below : FuncData
  F_are_rising_below : FunD K "are_rising_below" "are_rising_below" (defArgs s_are_rising_below) (defBody s_are_rising_below) (defScope s_are_rising_below) [] [] (He.ga K "are_rising_below") fd_are_rising_below
  g_are_rising_below : mg "are_rising_below" = some (.ref (He.ga K "are_rising_below"))
  b_are_rising_below : Binds K fd_are_rising_below ["thing", "many"] []
  fd_are_rooms : FuncData
  F_are_rooms : FunD K "are_rooms" "are_rooms" (defArgs s_are_rooms) (defBody s_are_rooms) (defScope s_are_rooms) [] [] (He.ga K "are_rooms") fd_are_rooms
  g_are_rooms : mg "are_rooms" = some (.ref (He.ga K "are_rooms"))
  b_are_rooms : Binds K fd_are_rooms ["rooms", "thing"] []
  fd_are_pairs : FuncData
  F_are_pairs : FunD K "are_pairs" "are_pairs" (defArgs s_are_pairs) (defBody s_are_pairs) (defScope s_are_pairs) [] [] (He.ga K "are_pairs") fd_are_pairs
  g_are_pairs : mg "are_pairs" = some (.ref (He.ga K "are_pairs"))
  b_are_pairs : Binds K fd_are_pairs ["rooms", "thing"] []
  fd_are_ranks : FuncData
  F_are_ranks : FunD K "are_ranks" "are_ranks" (defArgs s_are_ranks) (defBody s_are_ranks) (defScope s_are_ranks) [] [] (He.ga K "are_ranks") fd_are_ranks
  g_are_ranks : mg "are_ranks" = some (.ref (He.ga K "are_ranks"))
  b_are_ranks : Binds K fd_are_ranks ["rooms", "thing"] []
  fd_are_ways : FuncData
  F_are_ways : FunD K "are_ways" "are_ways" (defArgs s_are_ways) (defBody s_are_ways) (defScope s_are_ways) [] [] (He.ga K "are_ways") fd_are_ways
  g_are_ways : mg "are_ways" = some (.ref (He.ga K "are_ways"))
  b_are_ways : Binds K fd_are_ways ["letters", "rooms", "thing"] []
  fd_fault_of : FuncData
  F_fault_of : FunD K "fault_of" "fault_of" (defArgs s_fault_of) (defBody s_fault_of) (defScope s_fault_of) [] [] (He.ga K "fault_of") fd_fault_of
  g_fault_of : mg "fault_of" = some (.ref (He.ga K "fault_of"))
  b_fault_of : Binds K fd_fault_of ["letters", "rooms", "start", "ways", "kind", "by"] []
  fd_Hall___init__ : FuncData
  F_Hall___init__ : FunD K "__init__" "Hall.__init__" (defArgs s_Hall___init__) (defBody s_Hall___init__) (defScope s_Hall___init__) [] [] (He.ma K (He.ga K "Hall") "__init__") fd_Hall___init__
  b_Hall___init__ : Binds K fd_Hall___init__ ["self", "letters", "rooms", "start", "ways", "kind", "by"] []
  fd__law_made : FuncData
  F__law_made : FunD K "_law_made" "_law_made" (defArgs s__law_made) (defBody s__law_made) (defScope s__law_made) [] [] (He.ga K "_law_made") fd__law_made
  g__law_made : mg "_law_made" = some (.ref (He.ga K "_law_made"))
  b__law_made : Binds K fd__law_made ["_law_parts_here"] []
  fd_Hall_ends : FuncData
  F_Hall_ends : FunD K "ends" "Hall.ends" (defArgs s_Hall_ends) (defBody s_Hall_ends) (defScope s_Hall_ends) [] [] (He.ma K (He.ga K "Hall") "ends") fd_Hall_ends
  me_Hall_ends : Meth K (He.ga K "Hall") "ends" (He.ma K (He.ga K "Hall") "ends")
  b_Hall_ends : Binds K fd_Hall_ends ["self", "room", "letter"] []
  fd_Strides_entered : FuncData
  F_Strides_entered : FunD K "entered" "Strides.entered" (defArgs s_Strides_entered) (defBody s_Strides_entered) (defScope s_Strides_entered) [] [] (He.ma K (He.ga K "Strides") "entered") fd_Strides_entered
  me_Strides_entered : Meth K (He.ga K "Strides") "entered" (He.ma K (He.ga K "Strides") "entered")
  b_Strides_entered : Binds K fd_Strides_entered ["self", "bits", "room"] []
  fd_Strides_onward : FuncData
  F_Strides_onward : FunD K "onward" "Strides.onward" (defArgs s_Strides_onward) (defBody s_Strides_onward) (defScope s_Strides_onward) [] [] (He.ma K (He.ga K "Strides") "onward") fd_Strides_onward
  me_Strides_onward : Meth K (He.ga K "Strides") "onward" (He.ma K (He.ga K "Strides") "onward")
  b_Strides_onward : Binds K fd_Strides_onward ["self", "step", "letter"] []
  fd_Strides_along : FuncData
  F_Strides_along : FunD K "along" "Strides.along" (defArgs s_Strides_along) (defBody s_Strides_along) (defScope s_Strides_along) [] [] (He.ma K (He.ga K "Strides") "along") fd_Strides_along
  me_Strides_along : Meth K (He.ga K "Strides") "along" (He.ma K (He.ga K "Strides") "along")
  b_Strides_along : Binds K fd_Strides_along ["self", "some"] []
  fd_pairs_of_ranks : FuncData
  F_pairs_of_ranks : FunD K "pairs_of_ranks" "pairs_of_ranks" (defArgs s_pairs_of_ranks) (defBody s_pairs_of_ranks) (defScope s_pairs_of_ranks) [] [] (He.ga K "pairs_of_ranks") fd_pairs_of_ranks
  g_pairs_of_ranks : mg "pairs_of_ranks" = some (.ref (He.ga K "pairs_of_ranks"))
  b_pairs_of_ranks : Binds K fd_pairs_of_ranks ["ranks"] []
  fd_pairs_of : FuncData
  F_pairs_of : FunD K "pairs_of" "pairs_of" (defArgs s_pairs_of) (defBody s_pairs_of) (defScope s_pairs_of) [] [] (He.ga K "pairs_of") fd_pairs_of
  g_pairs_of : mg "pairs_of" = some (.ref (He.ga K "pairs_of"))
  b_pairs_of : Binds K fd_pairs_of ["hall"] []
  fd_Strides___init__ : FuncData
  F_Strides___init__ : FunD K "__init__" "Strides.__init__" (defArgs s_Strides___init__) (defBody s_Strides___init__) (defScope s_Strides___init__) [] [] (He.ma K (He.ga K "Strides") "__init__") fd_Strides___init__
  b_Strides___init__ : Binds K fd_Strides___init__ ["self", "hall"] []
  fd_step_of : FuncData
  F_step_of : FunD K "step_of" "step_of" (defArgs s_step_of) (defBody s_step_of) (defScope s_step_of) [] [] (He.ga K "step_of") fd_step_of
  g_step_of : mg "step_of" = some (.ref (He.ga K "step_of"))
  b_step_of : Binds K fd_step_of ["hall", "some"] []
  fd_step_on : FuncData
  F_step_on : FunD K "step_on" "step_on" (defArgs s_step_on) (defBody s_step_on) (defScope s_step_on) [] [] (He.ga K "step_on") fd_step_on
  g_step_on : mg "step_on" = some (.ref (He.ga K "step_on"))
  b_step_on : Binds K fd_step_on ["hall", "step", "letter"] []
  fd__law_pairs : FuncData
  F__law_pairs : FunD K "_law_pairs" "_law_pairs" (defArgs s__law_pairs) (defBody s__law_pairs) (defScope s__law_pairs) [] [] (He.ga K "_law_pairs") fd__law_pairs
  g__law_pairs : mg "_law_pairs" = some (.ref (He.ga K "_law_pairs"))
  b__law_pairs : Binds K fd__law_pairs ["_law_parts_here"] []
  fd__law_bits : FuncData
  F__law_bits : FunD K "_law_bits" "_law_bits" (defArgs s__law_bits) (defBody s__law_bits) (defScope s__law_bits) [] [] (He.ga K "_law_bits") fd__law_bits
  g__law_bits : mg "_law_bits" = some (.ref (He.ga K "_law_bits"))
  b__law_bits : Binds K fd__law_bits ["_law_ways", "_law_room", "_law_many"] []
  fd__law_entered : FuncData
  F__law_entered : FunD K "_law_entered" "_law_entered" (defArgs s__law_entered) (defBody s__law_entered) (defScope s__law_entered) [] [] (He.ga K "_law_entered") fd__law_entered
  g__law_entered : mg "_law_entered" = some (.ref (He.ga K "_law_entered"))
  b__law_entered : Binds K fd__law_entered ["_law_pairs_here", "_law_signs", "_law_end"] []
  fd__law_stepped : FuncData
  F__law_stepped : FunD K "_law_stepped" "_law_stepped" (defArgs s__law_stepped) (defBody s__law_stepped) (defScope s__law_stepped) [] [] (He.ga K "_law_stepped") fd__law_stepped
  g__law_stepped : mg "_law_stepped" = some (.ref (He.ga K "_law_stepped"))
  b__law_stepped : Binds K fd__law_stepped ["_law_parts_here", "_law_some"] []
  fd_law : FuncData
  F_law : FunD K "law" "law" (defArgs s_law) (defBody s_law) (defScope s_law) [] [] (He.ga K "law") fd_law
  g_law : mg "law" = some (.ref (He.ga K "law"))
  b_law : Binds K fd_law ["_law_script"] []
  cl_Strides : Cls K (He.ga K "Strides")
  mk_Strides : Mk K (He.ga K "Strides") (He.ma K (He.ga K "Strides") "__init__")
  g_Strides : mg "Strides" = some (.ref (He.ga K "Strides"))
  cl_Hall : Cls K (He.ga K "Hall")
  mk_Hall : Mk K (He.ga K "Hall") (He.ma K (He.ga K "Hall") "__init__")
  g_Hall : mg "Hall" = some (.ref (He.ga K "Hall"))
  hf_walked : ∀ c ∈ (["Strides"] : List Str), Cls K (He.ga K c) ∧ NoAttr K (He.ga K c) "walked"
  hf_staying : ∀ c ∈ (["Strides"] : List Str), Cls K (He.ga K c) ∧ NoAttr K (He.ga K c) "staying"
  hf_rising : ∀ c ∈ (["Strides"] : List Str), Cls K (He.ga K c) ∧ NoAttr K (He.ga K c) "rising"
  hf_marks : ∀ c ∈ (["Strides"] : List Str), Cls K (He.ga K c) ∧ NoAttr K (He.ga K c) "marks"
  hf_letters : ∀ c ∈ (["Hall"] : List Str), Cls K (He.ga K c) ∧ NoAttr K (He.ga K c) "letters"
  hf_rooms : ∀ c ∈ (["Hall"] : List Str), Cls K (He.ga K c) ∧ NoAttr K (He.ga K c) "rooms"
  hf_start : ∀ c ∈ (["Hall"] : List Str), Cls K (He.ga K c) ∧ NoAttr K (He.ga K c) "start"
  hf_ways : ∀ c ∈ (["Hall"] : List Str), Cls K (He.ga K c) ∧ NoAttr K (He.ga K c) "ways"
  hf_kind : ∀ c ∈ (["Hall"] : List Str), Cls K (He.ga K c) ∧ NoAttr K (He.ga K c) "kind"
  hf_by : ∀ c ∈ (["Hall"] : List Str), Cls K (He.ga K c) ∧ NoAttr K (He.ga K c) "by"
  hf_goals : ∀ c ∈ (["Hall"] : List Str), Cls K (He.ga K c) ∧ NoAttr K (He.ga K c) "goals"
  g_KINDS : mg "KINDS" = some (.ref (He.ga K "KINDS"))
  T_KINDS : TabF K (He.ga K) w (He.ga K "KINDS") tab_KINDS
  t_MOST_LETTERS : Tok
  k_MOST_LETTERS : mg "MOST_LETTERS" = some (.int 4 t_MOST_LETTERS)

noncomputable def m__law_box (script_1 k_2 : U) : M U := fnM (.bind (iteW (testW (op2 ltU (.ret k_2) (op1 lenU (.ret script_1)))) (op2 ixU (.ret script_1) (.ret k_2)) (.ret (.int 0))) fun cell_3 => (.bind (op2 modU (op2 mulU (op2 addU (op2 addU (op2 modU (.ret cell_3) (.ret (.int 2305843009213693951))) (op2 mulU (op2 mulU (.ret (.int 7919)) (.ret k_2)) (.ret k_2))) (.ret (.int 3))) (.ret (.int 48271))) (.ret (.int 2305843009213693921))) fun mixed_4 => (rtO (.bind (lstW (consA (.bind (iteW (testW (op2 geU (op1 absU (.ret cell_3)) (op2 powU (.ret (.int 10)) (.ret (.int 18))))) (op1 absU (.ret cell_3)) (.ret (.int 0))) fun u => .o (leafO u)) (consA (.bind (.ret mixed_4) fun u => .o (leafO u)) (consA (.bind (.ret (.int 0)) fun u => .o (leafO u)) nilA)))) fun u => .bind (.o (lstO u)) allocM))))
theorem w__law_box {P : Program} {w : World} {K : PySem.W.Frag} {mg : Str → Option Value} {bs : Heap} (N : En w K mg) : FnOk P w K mg bs CX0 1 (He.ga K "_law_box") N.fd__law_box ["_law_script", "_law_k"] (spM ⟨K, He.ga K⟩ (L2' m__law_box)) :=
  fn_okF N.F__law_box sc__law_box (ar2 fun _ _ => rfl) fun cv A o s H E hr => ⟨_, PSs.nox (pss_cons (ps_set (i := 2) sc__law_box.nd rfl (.inl rfl) (pe_ifExp (pt_cmpR (op_ltK K hr.units) (pv 1) (pe_callB (call_lenK K) (by rfl) N.m_len PySem.boot_len (pa_cons (pv 0) pa_nil)) (nomark _)) (pe_ix (ix_seqK K) (pv 0) (pv 1) (fun _ _ => rfl)) pe_int))
 (pss_cons (ps_set (i := 3) sc__law_box.nd rfl (.inl rfl) (pe_op op_modN (pe_op (op_mulK K) (pe_op (op_addK K) (pe_op (op_addK K) (pe_op op_modN (pv 2) pe_int) (pe_op (op_mulK K) (pe_op (op_mulK K) pe_int (pv 1)) (pv 1))) pe_int) pe_int) pe_int))
 (pss_one (ps_ret (pe_lst (pa_cons (pe_ifExp (pt_cmpR op_ge (pe_callB call_abs (by rfl) N.m_abs (by decide +kernel) (pa_cons (pv 2) pa_nil)) (pe_op op_pow pe_int pe_int) (nomark _)) (pe_callB call_abs (by rfl) N.m_abs (by decide +kernel) (pa_cons (pv 2) pa_nil)) pe_int) (pa_cons (pv 3) (pa_cons pe_int pa_nil)))))))),
   fun B H0 as0 => ar2 fun script_1 k_2 => ⟨_, rfl,
 (blk_set (i := 2) (ev_if (et_test (EvW.r (ev_op ok_lt (EvW.r (ev_var (i := 1) rfl)) (EvW.r (ev_cb1 ok_len (EvW.r (ev_var (i := 0) rfl))))))) (ev_op ok_ix (EvW.r (ev_var (i := 0) rfl)) (EvW.r (ev_var (i := 1) rfl))) ev_int) fun cell_3 =>
 (blk_set (i := 3) (ev_op ok_mod (EvW.r (ev_op ok_mul (EvW.r (ev_op ok_add (EvW.r (ev_op ok_add (EvW.r (ev_op ok_mod (EvW.r (ev_var (i := 2) rfl)) (EvW.r ev_int))) (EvW.r (ev_op ok_mul (EvW.r (ev_op ok_mul (EvW.r ev_int) (EvW.r (ev_var (i := 1) rfl)))) (EvW.r (ev_var (i := 1) rfl)))))) (EvW.r ev_int))) (EvW.r ev_int))) (EvW.r ev_int)) fun mixed_4 =>
 (blk_retC (enf_lst (eanf_cons (enf_leaf (ev_if (et_test (EvW.r (ev_op ok_ge (EvW.r (ev_cb1 (ok_abs fun i H Q q => ⟨i, rfl, q⟩) (EvW.r (ev_var (i := 2) rfl)))) (EvW.r (ev_op ok_pow (EvW.r ev_int) (EvW.r ev_int)))))) (ev_cb1 (ok_abs fun i H Q q => ⟨i, rfl, q⟩) (EvW.r (ev_var (i := 2) rfl))) ev_int)) (eanf_cons (enf_leaf (ev_var (i := 3) rfl)) (eanf_cons (enf_leaf ev_int) eanf_nil)))))))⟩⟩

noncomputable def m__law_take (box_here_1 many_2 : U) : M U := fnM (seqO (S := Unit) (iteW (testW (op2 gtU (.bind (.bind (.bind (.ret box_here_1) locM) fun c => .bind (.ret (.int 0)) fun n => .o (ixC c n)) fun c => .o (valC c)) (.ret (.int 0)))) (.bind (op2 modU (.bind (.bind (.bind (.ret box_here_1) locM) fun c => .bind (.ret (.int 0)) fun n => .o (ixC c n)) fun c => .o (valC c)) (.ret many_2)) fun digit_4 => (.bind (op2 fdivU (.bind (.bind (.bind (.ret box_here_1) locM) fun c => .bind (.ret (.int 0)) fun n => .o (ixC c n)) fun c => .o (valC c)) (.ret many_2)) fun x => .bind (.bind (.ret box_here_1) locM) fun c => .bind (.ret (.int 0)) fun n => .bind (.o (setItC c n x)) fun d => .bind (putC d.1 d.2.1) fun _ => (rtO (.ret digit_4)))) (nxO ())) fun s_3 => (.bind (op2 addU (.bind (.bind (.bind (.ret box_here_1) locM) fun c => .bind (.ret (.int 2)) fun n => .o (ixC c n)) fun c => .o (valC c)) (.ret (.int 1))) fun x => .bind (.bind (.ret box_here_1) locM) fun c => .bind (.ret (.int 2)) fun n => .bind (.o (setItC c n x)) fun d => .bind (putC d.1 d.2.1) fun _ => (.bind (op2 modU (op2 mulU (op2 addU (op2 addU (.bind (.bind (.bind (.ret box_here_1) locM) fun c => .bind (.ret (.int 1)) fun n => .o (ixC c n)) fun c => .o (valC c)) (op2 mulU (op2 mulU (.ret (.int 65537)) (.bind (.bind (.bind (.ret box_here_1) locM) fun c => .bind (.ret (.int 2)) fun n => .o (ixC c n)) fun c => .o (valC c))) (.bind (.bind (.bind (.ret box_here_1) locM) fun c => .bind (.ret (.int 2)) fun n => .o (ixC c n)) fun c => .o (valC c)))) (.ret (.int 11))) (.ret (.int 48271))) (.ret (.int 2305843009213693921))) fun mixed_5 => (.bind (op2 modU (op2 mulU (.ret mixed_5) (op2 addU (op2 modU (.ret mixed_5) (.ret (.int 1000003))) (op2 mulU (.ret (.int 99991)) (.bind (.bind (.bind (.ret box_here_1) locM) fun c => .bind (.ret (.int 2)) fun n => .o (ixC c n)) fun c => .o (valC c))))) (.ret (.int 2305843009213693907))) fun mixed_6 => (rtO (op2 modU (op2 addU (op2 fdivU (.ret mixed_6) (.ret (.int 97))) (op2 fdivU (.ret mixed_6) (.ret (.int 1000033)))) (.ret many_2)))))))
theorem w__law_take {P : Program} {w : World} {K : PySem.W.Frag} {mg : Str → Option Value} {bs : Heap} (N : En w K mg) : FnOk P w K mg bs CX0 1 (He.ga K "_law_take") N.fd__law_take ["_law_box_here", "_law_many"] (spM ⟨K, He.ga K⟩ (L2' m__law_take)) :=
  fn_okF N.F__law_take sc__law_take (ar2 fun _ _ => rfl) fun cv A o s H E hr => ⟨_, PSs.nox (pss_cons (ps_if (pt_cmpR op_gt (pe_ix (ix_seqK K) (pv 0) pe_int (fun _ _ => rfl)) pe_int (nomark _))
 (pss_cons (ps_set (i := 2) sc__law_take.nd rfl (.inl rfl) (pe_op op_modN (pe_ix (ix_seqK K) (pv 0) pe_int (fun _ _ => rfl)) (pv 1)))
 (pss_cons (ps_asg (pe_op op_fdivN (pe_ix (ix_seqK K) (pv 0) pe_int (fun _ _ => rfl)) (pv 1)) (pg_sub (pv 0) pe_int set_list))
 (pss_one (ps_ret (pv 2)))))
 pss_nil)
 (pss_cons (ps_asg (pe_op (op_addK K) (pe_ix (ix_seqK K) (pv 0) pe_int (fun _ _ => rfl)) pe_int) (pg_sub (pv 0) pe_int set_list))
 (pss_cons (ps_set (i := 3) sc__law_take.nd rfl (.inl rfl) (pe_op op_modN (pe_op (op_mulK K) (pe_op (op_addK K) (pe_op (op_addK K) (pe_ix (ix_seqK K) (pv 0) pe_int (fun _ _ => rfl)) (pe_op (op_mulK K) (pe_op (op_mulK K) pe_int (pe_ix (ix_seqK K) (pv 0) pe_int (fun _ _ => rfl))) (pe_ix (ix_seqK K) (pv 0) pe_int (fun _ _ => rfl)))) pe_int) pe_int) pe_int))
 (pss_cons (ps_set (i := 3) sc__law_take.nd rfl (.inl rfl) (pe_op op_modN (pe_op (op_mulK K) (pv 3) (pe_op (op_addK K) (pe_op op_modN (pv 3) pe_int) (pe_op (op_mulK K) pe_int (pe_ix (ix_seqK K) (pv 0) pe_int (fun _ _ => rfl))))) pe_int))
 (pss_one (ps_ret (pe_op op_modN (pe_op (op_addK K) (pe_op op_fdivN (pv 3) pe_int) (pe_op op_fdivN (pv 3) pe_int)) (pv 1)))))))),
   fun B H0 as0 => ar2 fun box_here_1 many_2 => ⟨_, rfl,
 (blk_seq (blk_ifL (S := Unit) (fun s_3 => [some (.im box_here_1), some (.im many_2), none, none]) (et_test (EvW.r (ev_op ok_gt (EvW.r (ev_cell (r := false) (ec_ix (ec_loc (ev_var (i := 0) rfl)) eq_int))) (EvW.r ev_int))))
 (blk_set (i := 2) (ev_op ok_mod (EvW.r (ev_cell (r := false) (ec_ix (ec_loc (ev_var (i := 0) rfl)) eq_int))) (EvW.r (ev_var (i := 1) rfl))) fun digit_4 =>
 (blk_setC (ev_op ok_fdiv (EvW.r (ev_cell (r := false) (ec_ix (ec_loc (ev_var (i := 0) rfl)) eq_int))) (EvW.r (ev_var (i := 1) rfl))) (ec_loc (ev_var (i := 0) rfl)) eq_int
 (blk_ret (EvW.f (ev_var (i := 2) rfl)))))
 (blk_fin [2] (by rfl))) fun s_3 =>
 (blk_setC (ev_op ok_add (EvW.r (ev_cell (r := false) (ec_ix (ec_loc (ev_var (i := 0) rfl)) eq_int))) (EvW.r ev_int)) (ec_loc (ev_var (i := 0) rfl)) eq_int
 (blk_set (i := 3) (ev_op ok_mod (EvW.r (ev_op ok_mul (EvW.r (ev_op ok_add (EvW.r (ev_op ok_add (EvW.r (ev_cell (r := false) (ec_ix (ec_loc (ev_var (i := 0) rfl)) eq_int))) (EvW.r (ev_op ok_mul (EvW.r (ev_op ok_mul (EvW.r ev_int) (EvW.r (ev_cell (r := false) (ec_ix (ec_loc (ev_var (i := 0) rfl)) eq_int))))) (EvW.r (ev_cell (r := false) (ec_ix (ec_loc (ev_var (i := 0) rfl)) eq_int))))))) (EvW.r ev_int))) (EvW.r ev_int))) (EvW.r ev_int)) fun mixed_5 =>
 (blk_set (i := 3) (ev_op ok_mod (EvW.r (ev_op ok_mul (EvW.r (ev_var (i := 3) rfl)) (EvW.r (ev_op ok_add (EvW.r (ev_op ok_mod (EvW.r (ev_var (i := 3) rfl)) (EvW.r ev_int))) (EvW.r (ev_op ok_mul (EvW.r ev_int) (EvW.r (ev_cell (r := false) (ec_ix (ec_loc (ev_var (i := 0) rfl)) eq_int))))))))) (EvW.r ev_int)) fun mixed_6 =>
 (blk_ret (EvW.f (ev_op ok_mod (EvW.r (ev_op ok_add (EvW.r (ev_op ok_fdiv (EvW.r (ev_var (i := 3) rfl)) (EvW.r ev_int))) (EvW.r (ev_op ok_fdiv (EvW.r (ev_var (i := 3) rfl)) (EvW.r ev_int))))) (EvW.r (ev_var (i := 1) rfl)))))))))⟩⟩

noncomputable def m__law_kind_by (box_here_1 rooms_2 : U) : M U := fnM (.bind (callM (L2' m__law_take) (consA (.ret box_here_1) (consA (.ret (.int 4)) nilA))) fun which_3 => (.bind (lstW nilA) fun more_4 => (seqO (S := Unit) (iteW (testW (op2 ltU (.ret which_3) (.ret (.int 2)))) (rtO (tupW (consA (op2 ixU (lstW (consA (.ret (.str "again")) (consA (.ret (.str "at last")) nilA))) (.ret which_3)) (consA (op1 tupleU (lcW (rng1W (.ret rooms_2)) (fun room_6 => (testW (op2 eqU (callM (L2' m__law_take) (consA (.ret box_here_1) (consA (.ret (.int 2)) nilA))) (.ret (.int 0))))) fun room_6 => (.ret room_6))) nilA)))) (nxO ())) fun s_5 => (seqO (S := Unit) (iteW (testW (op2 eqU (.ret which_3) (.ret (.int 3)))) (rtO (tupW (consA (.ret (.str "ranks")) (consA (op1 tupleU (lcW (rng1W (.ret rooms_2)) (fun room_9 => (.ret true)) fun room_9 => (callM (L2' m__law_take) (consA (.ret box_here_1) (consA (.ret (.int 5)) nilA))))) nilA)))) (nxO ())) fun s_8 => (seqO (S := U) (.bind (rng1W (callM (L2' m__law_take) (consA (.ret box_here_1) (consA (.ret (.int 3)) nilA)))) fun us => forO (fun turn_12 s_11 => (.bind (lcW (rng1W (.ret rooms_2)) (fun room_16 => (.ret true)) fun room_16 => (callM (L2' m__law_take) (consA (.ret box_here_1) (consA (.ret (.int 5)) nilA)))) fun signs_15 => (.bind (op1 tupleU (lcW (rng1W (.ret rooms_2)) (fun room_21 => (testW (op2 inSU (op2 ixU (.ret signs_15) (.ret room_21)) (tupW (consA (.ret (.int 1)) (consA (.ret (.int 3)) nilA)))))) fun room_21 => (.ret room_21))) fun never_20 => (.bindS (.bind (.ret (s_11, id)) fun h => .bind (consA (tupW (consA (.ret never_20) (consA (op1 tupleU (lcW (rng1W (.ret rooms_2)) (fun room_24 => (testW (op2 inSU (op2 ixU (.ret signs_15) (.ret room_24)) (tupW (consA (.ret (.int 2)) (consA (.ret (.int 3)) nilA)))))) fun room_24 => (.ret room_24))) nilA))) nilA) fun xs => .o (mutL appL h xs)) fun more_23 => (nxO more_23))))) us more_4) fun s_11 => (rtO (tupW (consA (.ret (.str "pairs")) (consA (op1 tupleU (.ret s_11)) nilA)))))))))
theorem w__law_kind_by {P : Program} {w : World} {K : PySem.W.Frag} {mg : Str → Option Value} {bs : Heap} (N : En w K mg) : FnOk P w K mg bs CX0 2 (He.ga K "_law_kind_by") N.fd__law_kind_by ["_law_box_here", "_law_rooms"] (spM ⟨K, He.ga K⟩ (L2' m__law_kind_by)) :=
  fn_okF N.F__law_kind_by sc__law_kind_by (ar2 fun _ _ => rfl) fun cv A o s H E hr => ⟨_, PSs.nox (pss_cons (ps_par (i := 2) (j := 3) (by rfl) sc__law_kind_by.nd rfl rfl (by decide) rfl rfl (pa_cons (pe_call (w__law_take N) (hr.mono (by decide)) (by rfl) N.g__law_take N.F__law_take.kp N.b__law_take .nil pass0 (pa_cons (pv 0) (pa_cons pe_int pa_nil))) (pa_cons (pe_lst pa_nil) pa_nil)) (by rfl))
 (pss_cons (ps_if (pt_cmpR (op_ltK K hr.units) (pv 2) pe_int (nomark _))
 (pss_one (ps_ret (pe_tup (pa_cons (pe_ix (ix_seqK K) (pe_lst (pa_cons pe_str (pa_cons pe_str pa_nil))) (pv 2) (fun _ _ => rfl)) (pa_cons (pe_callTy (call_tupleK K) (by rfl) N.m_tuple (by decide +kernel) (pa_cons (pe_lc (own := [("_law_room", 7)]) (by rfl) sc__law_kind_by.nd (pi_range1 (by rfl) N.m_range (pa_cons (pv 1) pa_nil)) (blkOk_by (own := [("_law_room", 7)]) (N := N__law_kind_by) (sc := defScope s__law_kind_by) (by decide +kernel)) (fun _ _ _ _ _ => (pg_name (i := 7) sc__law_kind_by.nd rfl (.inl rfl))) (fun _ _ _ _ _ => (pts_one (pt_cmpR (op_eqK K hr.units) (pe_call (w__law_take N) (hr.mono (by decide)) (by rfl) N.g__law_take N.F__law_take.kp N.b__law_take .nil pass0 (pa_cons (pv 0) (pa_cons pe_int pa_nil))) pe_int (nomark _)))) (fun _ _ _ _ _ => (pv 7))) pa_nil)) pa_nil)))))
 pss_nil)
 (pss_cons (ps_if (pt_cmpR (op_eqK K hr.units) (pv 2) pe_int (nomark _))
 (pss_one (ps_ret (pe_tup (pa_cons pe_str (pa_cons (pe_callTy (call_tupleK K) (by rfl) N.m_tuple (by decide +kernel) (pa_cons (pe_lc (own := [("_law_room", 7)]) (by rfl) sc__law_kind_by.nd (pi_range1 (by rfl) N.m_range (pa_cons (pv 1) pa_nil)) (blkOk_by (own := [("_law_room", 7)]) (N := N__law_kind_by) (sc := defScope s__law_kind_by) (by decide +kernel)) (fun _ _ _ _ _ => (pg_name (i := 7) sc__law_kind_by.nd rfl (.inl rfl))) (fun _ _ _ _ _ => pts_nil) (fun _ _ _ _ _ => (pe_call (w__law_take N) (hr.mono (by decide)) (by rfl) N.g__law_take N.F__law_take.kp N.b__law_take .nil pass0 (pa_cons (pv 0) (pa_cons pe_int pa_nil))))) pa_nil)) pa_nil)))))
 pss_nil)
 (pss_cons (ps_for PassesOwn.never rfl (pi_range1 (by rfl) N.m_range (pa_cons (pe_call (w__law_take N) (hr.mono (by decide)) (by rfl) N.g__law_take N.F__law_take.kp N.b__law_take .nil pass0 (pa_cons (pv 0) (pa_cons pe_int pa_nil))) pa_nil)) (pg_name (i := 4) sc__law_kind_by.nd rfl (.inl rfl))
 (pss_cons (ps_set (i := 5) sc__law_kind_by.nd rfl (.inr rfl) (pe_lc (own := [("_law_room", 7)]) (by rfl) sc__law_kind_by.nd (pi_range1 (by rfl) N.m_range (pa_cons (pv 1) pa_nil)) (blkOk_by (own := [("_law_room", 7)]) (N := N__law_kind_by) (sc := defScope s__law_kind_by) (by decide +kernel)) (fun _ _ _ _ _ => (pg_name (i := 7) sc__law_kind_by.nd rfl (.inl rfl))) (fun _ _ _ _ _ => pts_nil) (fun _ _ _ _ _ => (pe_call (w__law_take N) (hr.mono (by decide)) (by rfl) N.g__law_take N.F__law_take.kp N.b__law_take .nil pass0 (pa_cons (pv 0) (pa_cons pe_int pa_nil))))))
 (pss_cons (ps_set (i := 6) sc__law_kind_by.nd rfl (.inl rfl) (pe_callTy (call_tupleK K) (by rfl) N.m_tuple (by decide +kernel) (pa_cons (pe_lc (own := [("_law_room", 7)]) (by rfl) sc__law_kind_by.nd (pi_range1 (by rfl) N.m_range (pa_cons (pv 1) pa_nil)) (blkOk_by (own := [("_law_room", 7)]) (N := N__law_kind_by) (sc := defScope s__law_kind_by) (by decide +kernel)) (fun _ _ _ _ _ => (pg_name (i := 7) sc__law_kind_by.nd rfl (.inl rfl))) (fun _ _ _ _ _ => (pts_one (pt_cmpR (op_inAK K (rm66 hr)) (pe_ix (ix_seqK K) (pv 5) (pv 7) (fun _ _ => rfl)) (pe_tup (pa_cons pe_int (pa_cons pe_int pa_nil))) (by rfl)))) (fun _ _ _ _ _ => (pv 7))) pa_nil)))
 (pss_one (ps_expr (pe_bm PySem.F.plainAttrs_list PySem.F.slot_list_append PySem.F.type_list_append mt_append (pv 3) (pa_cons (pe_tup (pa_cons (pv 6) (pa_cons (pe_callTy (call_tupleK K) (by rfl) N.m_tuple (by decide +kernel) (pa_cons (pe_lc (own := [("_law_room", 7)]) (by rfl) sc__law_kind_by.nd (pi_range1 (by rfl) N.m_range (pa_cons (pv 1) pa_nil)) (blkOk_by (own := [("_law_room", 7)]) (N := N__law_kind_by) (sc := defScope s__law_kind_by) (by decide +kernel)) (fun _ _ _ _ _ => (pg_name (i := 7) sc__law_kind_by.nd rfl (.inl rfl))) (fun _ _ _ _ _ => (pts_one (pt_cmpR (op_inAK K (rm66 hr)) (pe_ix (ix_seqK K) (pv 5) (pv 7) (fun _ _ => rfl)) (pe_tup (pa_cons pe_int (pa_cons pe_int pa_nil))) (by rfl)))) (fun _ _ _ _ _ => (pv 7))) pa_nil)) pa_nil))) pa_nil)))))))
 (pss_one (ps_ret (pe_tup (pa_cons pe_str (pa_cons (pe_callTy (call_tupleK K) (by rfl) N.m_tuple (by decide +kernel) (pa_cons (pv 3) pa_nil)) pa_nil))))))))),
   fun B H0 as0 => ar2 fun box_here_1 rooms_2 => ⟨_, rfl,
 (blk_par_WN (i0 := 2) (i1 := 3) (ev_call (ea_cons (ev_var (i := 0) rfl) (ea_cons ev_int ea_nil))) (en_lst ea_nil) fun which_3 more_4 =>
 (blk_seq (blk_ifL (S := Unit) (fun s_5 => [some (.im box_here_1), some (.im rooms_2), some (.im which_3), some (.own (.lst .leaf) more_4), none, none, none, none]) (et_test (EvW.r (ev_op ok_lt (EvW.r (ev_var (i := 2) rfl)) (EvW.r ev_int))))
 (blk_ret (ef_tup (eaf_cons (EvW.f (ev_op ok_ix (EvW.r (EvN.ew (en_lst (ea_cons ev_str (ea_cons ev_str ea_nil))))) (EvW.r (ev_var (i := 2) rfl)))) (eaf_cons (EvW.f (ev_cb1 ok_tuple (EvW.r (EvN.ew (en_lc (by rfl) (src_range1 (EvW.r (ev_var (i := 1) rfl))) fun room_6 st r q => ⟨_, tg_name (by decide), (et_test (EvW.r (ev_op ok_eq (EvW.r (ev_call (ea_cons (ev_var (i := 0) rfl) (ea_cons ev_int ea_nil)))) (EvW.r ev_int)))), (ev_var (i := 7) rfl)⟩))))) eaf_nil))))
 (blk_fin [] (by rfl))) fun s_5 =>
 (blk_seq (blk_ifL (S := Unit) (fun s_8 => [some (.im box_here_1), some (.im rooms_2), some (.im which_3), some (.own (.lst .leaf) more_4), none, none, none, none]) (et_test (EvW.r (ev_op ok_eq (EvW.r (ev_var (i := 2) rfl)) (EvW.r ev_int))))
 (blk_ret (ef_tup (eaf_cons (EvW.f ev_str) (eaf_cons (EvW.f (ev_cb1 ok_tuple (EvW.r (EvN.ew (en_lc (by rfl) (src_range1 (EvW.r (ev_var (i := 1) rfl))) fun room_9 st r q => ⟨_, tg_name (by decide), et_yes, (ev_call (ea_cons (ev_var (i := 0) rfl) (ea_cons ev_int ea_nil)))⟩))))) eaf_nil))))
 (blk_fin [] (by rfl))) fun s_8 =>
 (blk_seq (blk_forL (S := U) [4, 5, 6] [4] (fun s_11 => [some (.im box_here_1), some (.im rooms_2), some (.im which_3), some (.own (.lst .leaf) s_11), none, none, none, none]) (by rfl) (src_range1 (EvW.r (ev_call (ea_cons (ev_var (i := 0) rfl) (ea_cons ev_int ea_nil)))))
 (fun s_11 turn_12 st r q => ⟨_, tg_name (by decide), (blk_set (i := 5) (EvN.ew (en_lc (by rfl) (src_range1 (EvW.r (ev_var (i := 1) rfl))) fun room_16 st r q => ⟨_, tg_name (by decide), et_yes, (ev_call (ea_cons (ev_var (i := 0) rfl) (ea_cons ev_int ea_nil)))⟩)) fun signs_15 =>
 (blk_set (i := 6) (ev_cb1 ok_tuple (EvW.r (EvN.ew (en_lc (by rfl) (src_range1 (EvW.r (ev_var (i := 1) rfl))) fun room_21 st r q => ⟨_, tg_name (by decide), (et_test (EvW.r (ev_op ok_in (EvW.r (ev_op ok_ix (EvW.r (ev_var (i := 5) rfl)) (EvW.r (ev_var (i := 7) rfl)))) (EvW.r (ev_tup (ea_cons ev_int (ea_cons ev_int ea_nil))))))), (ev_var (i := 7) rfl)⟩)))) fun never_20 =>
 (blk_last (blk_x2 (ex_mut mut_app (eh_slot (i := 3) rfl) (ea_cons (ev_tup (ea_cons (ev_var (i := 6) rfl) (ea_cons (ev_cb1 ok_tuple (EvW.r (EvN.ew (en_lc (by rfl) (src_range1 (EvW.r (ev_var (i := 1) rfl))) fun room_24 st r q => ⟨_, tg_name (by decide), (et_test (EvW.r (ev_op ok_in (EvW.r (ev_op ok_ix (EvW.r (ev_var (i := 5) rfl)) (EvW.r (ev_var (i := 7) rfl)))) (EvW.r (ev_tup (ea_cons ev_int (ea_cons ev_int ea_nil))))))), (ev_var (i := 7) rfl)⟩)))) ea_nil))) ea_nil)) fun more_23 =>
 (blk_fin [4, 5, 6] (by rfl))))))⟩)) fun s_11 =>
 (blk_ret (ef_tup (eaf_cons (EvW.f ev_str) (eaf_cons (EvW.f (ev_cb1 ok_tuple (ev_ownL (i := 3) rfl))) eaf_nil))))))))⟩⟩

noncomputable def m__law_parts (box_here_1 letters_2 rooms_3 : U) : M U := fnM (.bind (op2 addU (.ret (.int 1)) (callM (L2' m__law_take) (consA (.ret box_here_1) (consA (.ret (.int 4)) nilA)))) fun dense_4 => (.bind (op2 eqU (callM (L2' m__law_take) (consA (.ret box_here_1) (consA (.ret (.int 4)) nilA))) (.ret (.int 0))) fun lone_5 => (.bind (lstW nilA) fun ways_6 => (seqO (S := U) (.bind (rng1W (.ret rooms_3)) fun us => forO (fun room_8 s_7 => (seqO (S := U) (.bind (rng1W (.ret letters_2)) fun us => forO (fun letter_10 s_9 => (iteW (testW (.ret lone_5)) (.bindS (.bind (.ret (s_9, id)) fun h => .bind (consA (tupW (consA (.ret room_8) (consA (.ret letter_10) (consA (callM (L2' m__law_take) (consA (.ret box_here_1) (consA (.ret rooms_3) nilA))) nilA)))) nilA) fun xs => .o (mutL appL h xs)) fun ways_11 => (nxO ways_11)) (.bindS (.bind (.ret (s_9, id)) fun h => .bind (consA (lcW (rng1W (.ret rooms_3)) (fun end_13 => (testW (op2 ltU (callM (L2' m__law_take) (consA (.ret box_here_1) (consA (.ret (.int 5)) nilA))) (.ret dense_4)))) fun end_13 => (tupW (consA (.ret room_8) (consA (.ret letter_10) (consA (.ret end_13) nilA))))) nilA) fun xs => .o (mutL extL h xs)) fun ways_12 => (nxO ways_12)))) us s_7) fun s_9 => (nxO s_9))) us ways_6) fun s_7 => (.bind (callM (L2' m__law_take) (consA (.ret box_here_1) (consA (.ret rooms_3) nilA))) fun first_16 => (.bind (callM (L2' m__law_kind_by) (consA (.ret box_here_1) (consA (.ret rooms_3) nilA))) fun u_19 => un2 u_19 fun named_17 marked_18 => (rtO (tupW (consA (.ret letters_2) (consA (.ret rooms_3) (consA (.ret first_16) (consA (op1 tupleU (.ret s_7)) (consA (.ret named_17) (consA (.ret marked_18) nilA))))))))))))))
theorem w__law_parts {P : Program} {w : World} {K : PySem.W.Frag} {mg : Str → Option Value} {bs : Heap} (N : En w K mg) : FnOk P w K mg bs CX0 3 (He.ga K "_law_parts") N.fd__law_parts ["_law_box_here", "_law_letters", "_law_rooms"] (spM ⟨K, He.ga K⟩ (L3 m__law_parts)) :=
  fn_okF N.F__law_parts sc__law_parts (ar3 fun _ _ _ => rfl) fun cv A o s H E hr => ⟨_, PSs.nox (pss_cons (ps_asg (pe_tup (pa_cons (pe_op (op_addK K) pe_int (pe_call (w__law_take N) (hr.mono (by decide)) (by rfl) N.g__law_take N.F__law_take.kp N.b__law_take .nil pass0 (pa_cons (pv 0) (pa_cons pe_int pa_nil)))) (pa_cons (pe_cmpR (op_eqK K hr.units) (pe_call (w__law_take N) (hr.mono (by decide)) (by rfl) N.g__law_take N.F__law_take.kp N.b__law_take .nil pass0 (pa_cons (pv 0) (pa_cons pe_int pa_nil))) pe_int (nomark _)) (pa_cons (pe_lst pa_nil) pa_nil)))) (pg_tup rfl (pgs_cons (pg_name (i := 3) sc__law_parts.nd rfl (.inr rfl)) (pgs_cons (pg_name (i := 4) sc__law_parts.nd rfl (.inl rfl)) (pgs_cons (pg_name (i := 5) sc__law_parts.nd rfl (.inl rfl)) pgs_nil)))))
 (pss_cons (ps_for PassesOwn.never rfl (pi_range1 (by rfl) N.m_range (pa_cons (pv 2) pa_nil)) (pg_name (i := 6) sc__law_parts.nd rfl (.inr rfl))
 (pss_one (ps_for PassesOwn.never rfl (pi_range1 (by rfl) N.m_range (pa_cons (pv 1) pa_nil)) (pg_name (i := 7) sc__law_parts.nd rfl (.inr rfl))
 (pss_one (ps_if (pt_val (pv 4))
 (pss_one (ps_expr (pe_bm PySem.F.plainAttrs_list PySem.F.slot_list_append PySem.F.type_list_append mt_append (pv 5) (pa_cons (pe_tup (pa_cons (pv 6) (pa_cons (pv 7) (pa_cons (pe_call (w__law_take N) (hr.mono (by decide)) (by rfl) N.g__law_take N.F__law_take.kp N.b__law_take .nil pass0 (pa_cons (pv 0) (pa_cons (pv 2) pa_nil))) pa_nil)))) pa_nil))))
 (pss_one (ps_expr (pe_bm PySem.F.plainAttrs_list PySem.F.slot_list_extend PySem.F.type_list_extend mt_extend (pv 5) (pa_cons (pe_lc (own := [("_law_end", 11)]) (by rfl) sc__law_parts.nd (pi_range1 (by rfl) N.m_range (pa_cons (pv 2) pa_nil)) (blkOk_by (own := [("_law_end", 11)]) (N := N__law_parts) (sc := defScope s__law_parts) (by decide +kernel)) (fun _ _ _ _ _ => (pg_name (i := 11) sc__law_parts.nd rfl (.inl rfl))) (fun _ _ _ _ _ => (pts_one (pt_cmpR (op_ltK K hr.units) (pe_call (w__law_take N) (hr.mono (by decide)) (by rfl) N.g__law_take N.F__law_take.kp N.b__law_take .nil pass0 (pa_cons (pv 0) (pa_cons pe_int pa_nil))) (pv 3) (nomark _)))) (fun _ _ _ _ _ => (pe_tup (pa_cons (pv 6) (pa_cons (pv 7) (pa_cons (pv 11) pa_nil)))))) pa_nil)))))))))
 (pss_cons (ps_set (i := 8) sc__law_parts.nd rfl (.inl rfl) (pe_call (w__law_take N) (hr.mono (by decide)) (by rfl) N.g__law_take N.F__law_take.kp N.b__law_take .nil pass0 (pa_cons (pv 0) (pa_cons (pv 2) pa_nil))))
 (pss_cons (ps_asg (pe_call (w__law_kind_by N) (hr.mono (by decide)) (by rfl) N.g__law_kind_by N.F__law_kind_by.kp N.b__law_kind_by .nil pass0 (pa_cons (pv 0) (pa_cons (pv 2) pa_nil))) (pg_tup rfl (pgs_cons (pg_name (i := 9) sc__law_parts.nd rfl (.inl rfl)) (pgs_cons (pg_name (i := 10) sc__law_parts.nd rfl (.inl rfl)) pgs_nil))))
 (pss_one (ps_ret (pe_tup (pa_cons (pv 1) (pa_cons (pv 2) (pa_cons (pv 8) (pa_cons (pe_callTy (call_tupleK K) (by rfl) N.m_tuple (by decide +kernel) (pa_cons (pv 5) pa_nil)) (pa_cons (pv 9) (pa_cons (pv 10) pa_nil))))))))))))),
   fun B H0 as0 => ar3 fun box_here_1 letters_2 rooms_3 => ⟨_, rfl,
 (blk_tup_WWN (i0 := 3) (i1 := 4) (i2 := 5) (ev_op ok_add (EvW.r ev_int) (EvW.r (ev_call (ea_cons (ev_var (i := 0) rfl) (ea_cons ev_int ea_nil))))) (ev_op ok_eq (EvW.r (ev_call (ea_cons (ev_var (i := 0) rfl) (ea_cons ev_int ea_nil)))) (EvW.r ev_int)) (en_lst ea_nil) fun dense_4 lone_5 ways_6 =>
 (blk_seq (blk_forL (S := U) [6, 7] [6] (fun s_7 => [some (.im box_here_1), some (.im letters_2), some (.im rooms_3), some (.im dense_4), some (.im lone_5), some (.own (.lst .leaf) s_7), none, none, none, none, none, none]) (by rfl) (src_range1 (EvW.r (ev_var (i := 2) rfl)))
 (fun s_7 room_8 st r q => ⟨_, tg_name (by decide), (blk_last (blk_seq (blk_forL (S := U) [7] [7] (fun s_9 => [some (.im box_here_1), some (.im letters_2), some (.im rooms_3), some (.im dense_4), some (.im lone_5), some (.own (.lst .leaf) s_9), some (.im room_8), none, none, none, none, none]) (by rfl) (src_range1 (EvW.r (ev_var (i := 1) rfl)))
 (fun s_9 letter_10 st r q => ⟨_, tg_name (by decide), (blk_if (et_B (EvW.r (ev_var (i := 4) rfl)))
 (blk_last (blk_x2 (ex_mut mut_app (eh_slot (i := 5) rfl) (ea_cons (ev_tup (ea_cons (ev_var (i := 6) rfl) (ea_cons (ev_var (i := 7) rfl) (ea_cons (ev_call (ea_cons (ev_var (i := 0) rfl) (ea_cons (ev_var (i := 2) rfl) ea_nil))) ea_nil)))) ea_nil)) fun ways_11 =>
 (blk_fin [7] (by rfl))))
 (blk_last (blk_x2 (ex_mut mut_ext (eh_slot (i := 5) rfl) (ea_cons (EvN.ew (en_lc (by rfl) (src_range1 (EvW.r (ev_var (i := 2) rfl))) fun end_13 st r q => ⟨_, tg_name (by decide), (et_test (EvW.r (ev_op ok_lt (EvW.r (ev_call (ea_cons (ev_var (i := 0) rfl) (ea_cons ev_int ea_nil)))) (EvW.r (ev_var (i := 3) rfl))))), (ev_tup (ea_cons (ev_var (i := 6) rfl) (ea_cons (ev_var (i := 7) rfl) (ea_cons (ev_var (i := 11) rfl) ea_nil))))⟩)) ea_nil)) fun ways_12 =>
 (blk_fin [7] (by rfl)))))⟩)) fun s_9 =>
 (blk_fin [6, 7] (by rfl))))⟩)) fun s_7 =>
 (blk_set (i := 8) (ev_call (ea_cons (ev_var (i := 0) rfl) (ea_cons (ev_var (i := 2) rfl) ea_nil))) fun first_16 =>
 (blk_tg (vs := [9, 10]) (ev_call (ea_cons (ev_var (i := 0) rfl) (ea_cons (ev_var (i := 2) rfl) ea_nil))) (pat2 (P := fun δ w => Blk _ _ δ w _ _) (by decide) (by decide) fun named_17 marked_18 =>
 (blk_ret (ef_tup (eaf_cons (EvW.f (ev_var (i := 1) rfl)) (eaf_cons (EvW.f (ev_var (i := 2) rfl)) (eaf_cons (EvW.f (ev_var (i := 8) rfl)) (eaf_cons (EvW.f (ev_cb1 ok_tuple (ev_ownL (i := 5) rfl))) (eaf_cons (EvW.f (ev_var (i := 9) rfl)) (eaf_cons (EvW.f (ev_var (i := 10) rfl)) eaf_nil)))))))))))))⟩⟩

noncomputable def m_are_rising (some_1 : U) : M U := fnM (rtO (op1 allU (lcW (zipW (.ret some_1) (slW (.ret some_1) (someP (.ret (.int 1))) noP)) (fun e_4 => un2 e_4 fun one_2 other_3 => (.ret true)) fun e_4 => un2 e_4 fun one_2 other_3 => (op2 ltU (.ret one_2) (.ret other_3)))))
theorem w_are_rising {P : Program} {w : World} {K : PySem.W.Frag} {mg : Str → Option Value} {bs : Heap} (N : En w K mg) : FnOk P w K mg bs CX0 1 (He.ga K "are_rising") N.fd_are_rising ["some"] (spM ⟨K, He.ga K⟩ (L1 m_are_rising)) :=
  fn_okF N.F_are_rising sc_are_rising (ar1 fun _ => rfl) fun cv A o s H E hr => ⟨_, PSs.nox (pss_one (ps_ret (pe_callB (cr_allK K rfl) (by rfl) N.m_all (by decide +kernel) (pa_cons (pe_lc (own := [("one", 1), ("other", 2)]) (by rfl) sc_are_rising.nd (pi_zipAK K (by rfl) N.m_zip (pa_cons (pv 0) (pa_cons (pe_slice (sl_seqK K) (pv 0) (po_some pe_int) po_none) pa_nil))) (blkOk_by (own := [("one", 1), ("other", 2)]) (N := N_are_rising) (sc := defScope s_are_rising) (by decide +kernel)) (fun _ _ _ _ _ => (pg_tupK K (n := 2) rfl (pgs_cons (pg_name (i := 1) sc_are_rising.nd rfl (.inl rfl)) (pgs_cons (pg_name (i := 2) sc_are_rising.nd rfl (.inl rfl)) pgs_nil)))) (fun _ _ _ _ _ => pts_nil) (fun _ _ _ _ _ => (pe_cmpR (op_ltK K hr.units) (pv 1) (pv 2) (nomark _)))) pa_nil)))),
   fun B H0 as0 => ar1 fun some_1 => ⟨_, rfl,
 (blk_ret (EvW.f (ev_cb1 ok_all (EvW.r (EvN.ew (en_lc (by rfl) (src_zip (ev_var (i := 0) rfl) (ev_sl (EvW.r (ev_var (i := 0) rfl)) (eo_some (EvW.r ev_int)) eo_none)) (lcp2 (i := 1) (j := 2) (vs := [1, 2]) (by decide) (by decide) fun one_2 other_3 => ⟨et_yes, (ev_op ok_lt (EvW.r (ev_var (i := 1) rfl)) (EvW.r (ev_var (i := 2) rfl)))⟩)))))))⟩⟩

noncomputable def m_is_whole (thing_1 : U) : M U := fnM (rtO (andW (op1 (isiU · "int") (.ret thing_1)) (op1 notU (op1 (isiU · "bool") (.ret thing_1)))))
theorem w_is_whole {P : Program} {w : World} {K : PySem.W.Frag} {mg : Str → Option Value} {bs : Heap} (N : En w K mg) : FnOk P w K mg bs CX0 1 (He.ga K "is_whole") N.fd_is_whole ["thing"] (spM ⟨K, He.ga K⟩ (L1 m_is_whole)) :=
  fn_okF N.F_is_whole sc_is_whole (ar1 fun _ => rfl) fun cv A o s H E hr => ⟨_, PSs.nox (pss_one (ps_ret (pe_and (pe_callB (call_isiK K) (by rfl) N.m_isinstance (by decide +kernel) (pa_cons (pv 0) (pa_cons (pe_bltn (v := .ty "int") (by rfl) N.m_int (by decide +kernel) rfl) pa_nil))) (pe_one (pe_not (pe_callB (call_isiK K) (by rfl) N.m_isinstance (by decide +kernel) (pa_cons (pv 0) (pa_cons (pe_bltn (v := .ty "bool") (by rfl) N.m_bool (by decide +kernel) rfl) pa_nil)))))))),
   fun B H0 as0 => ar1 fun thing_1 => ⟨_, rfl,
 (blk_ret (EvW.f (ev_and (EvW.r (ev_isi (EvW.r (ev_var (i := 0) rfl)))) (ev_not (EvW.r (ev_isi (EvW.r (ev_var (i := 0) rfl))))))))⟩⟩

noncomputable def m_is_below (thing_1 many_2 : U) : M U := fnM (rtO (andW (callM (L1 m_is_whole) (consA (.ret thing_1) nilA)) (chainW leU ltU (.ret (.int 0)) (.ret thing_1) (.ret many_2))))
theorem w_is_below {P : Program} {w : World} {K : PySem.W.Frag} {mg : Str → Option Value} {bs : Heap} (N : En w K mg) : FnOk P w K mg bs CX0 2 (He.ga K "is_below") N.fd_is_below ["thing", "many"] (spM ⟨K, He.ga K⟩ (L2' m_is_below)) :=
  fn_okF N.F_is_below sc_is_below (ar2 fun _ _ => rfl) fun cv A o s H E hr => ⟨_, PSs.nox (pss_one (ps_ret (pe_and (pe_call (w_is_whole N) (hr.mono (by decide)) (by rfl) N.g_is_whole N.F_is_whole.kp N.b_is_whole .nil pass0 (pa_cons (pv 0) pa_nil)) (pe_one (pe_chain op_le (op_ltK K hr.units) pe_int (pv 0) (pv 1)))))),
   fun B H0 as0 => ar2 fun thing_1 many_2 => ⟨_, rfl,
 (blk_ret (EvW.f (ev_and (EvW.r (ev_call (ea_cons (ev_var (i := 0) rfl) ea_nil))) (ev_chain ok_le ok_lt (EvW.r ev_int) (EvW.r (ev_var (i := 0) rfl)) (EvW.r (ev_var (i := 1) rfl))))))⟩⟩

noncomputable def m_are_rising_below (thing_1 many_2 : U) : M U := fnM (rtO (andW (op1 (isiU · "tuple") (.ret thing_1)) (andW (op1 allU (lcW (itW (.ret thing_1)) (fun one_3 => (.ret true)) fun one_3 => (callM (L2' m_is_below) (consA (.ret one_3) (consA (.ret many_2) nilA))))) (callM (L1 m_are_rising) (consA (.ret thing_1) nilA)))))
theorem w_are_rising_below {P : Program} {w : World} {K : PySem.W.Frag} {mg : Str → Option Value} {bs : Heap} (N : En w K mg) : FnOk P w K mg bs CX0 3 (He.ga K "are_rising_below") N.fd_are_rising_below ["thing", "many"] (spM ⟨K, He.ga K⟩ (L2' m_are_rising_below)) :=
  fn_okF N.F_are_rising_below sc_are_rising_below (ar2 fun _ _ => rfl) fun cv A o s H E hr => ⟨_, PSs.nox (pss_one (ps_ret (pe_and (pe_callB (call_isiK K) (by rfl) N.m_isinstance (by decide +kernel) (pa_cons (pv 0) (pa_cons (pe_bltn (v := .ty "tuple") (by rfl) N.m_tuple (by decide +kernel) rfl) pa_nil))) (pe_and (pe_callB (cr_allK K rfl) (by rfl) N.m_all (by decide +kernel) (pa_cons (pe_lc (own := [("one", 2)]) (by rfl) sc_are_rising_below.nd (pi_seqK K (pv 0)) (blkOk_by (own := [("one", 2)]) (N := N_are_rising_below) (sc := defScope s_are_rising_below) (by decide +kernel)) (fun _ _ _ _ _ => (pg_name (i := 2) sc_are_rising_below.nd rfl (.inl rfl))) (fun _ _ _ _ _ => pts_nil) (fun _ _ _ _ _ => (pe_call (w_is_below N) (hr.mono (by decide)) (by rfl) N.g_is_below N.F_is_below.kp N.b_is_below .nil pass0 (pa_cons (pv 2) (pa_cons (pv 1) pa_nil))))) pa_nil)) (pe_one (pe_call (w_are_rising N) (hr.mono (by decide)) (by rfl) N.g_are_rising N.F_are_rising.kp N.b_are_rising .nil pass0 (pa_cons (pv 0) pa_nil))))))),
   fun B H0 as0 => ar2 fun thing_1 many_2 => ⟨_, rfl,
 (blk_ret (EvW.f (ev_and (EvW.r (ev_isi (EvW.r (ev_var (i := 0) rfl)))) (ev_and (EvW.r (ev_cb1 ok_all (EvW.r (EvN.ew (en_lc (by rfl) (src_it (ev_var (i := 0) rfl)) fun one_3 st r q => ⟨_, tg_name (by decide), et_yes, (ev_call (ea_cons (ev_var (i := 2) rfl) (ea_cons (ev_var (i := 1) rfl) ea_nil)))⟩))))) (ev_call (ea_cons (ev_var (i := 0) rfl) ea_nil))))))⟩⟩

noncomputable def m_are_rooms (rooms_1 thing_2 : U) : M U := fnM (rtO (callM (L2' m_are_rising_below) (consA (.ret thing_2) (consA (.ret rooms_1) nilA))))
theorem w_are_rooms {P : Program} {w : World} {K : PySem.W.Frag} {mg : Str → Option Value} {bs : Heap} (N : En w K mg) : FnOk P w K mg bs CX0 4 (He.ga K "are_rooms") N.fd_are_rooms ["rooms", "thing"] (spM ⟨K, He.ga K⟩ (L2' m_are_rooms)) :=
  fn_okF N.F_are_rooms sc_are_rooms (ar2 fun _ _ => rfl) fun cv A o s H E hr => ⟨_, PSs.nox (pss_one (ps_ret (pe_call (w_are_rising_below N) (hr.mono (by decide)) (by rfl) N.g_are_rising_below N.F_are_rising_below.kp N.b_are_rising_below .nil pass0 (pa_cons (pv 1) (pa_cons (pv 0) pa_nil))))),
   fun B H0 as0 => ar2 fun rooms_1 thing_2 => ⟨_, rfl,
 (blk_ret (EvW.f (ev_call (ea_cons (ev_var (i := 1) rfl) (ea_cons (ev_var (i := 0) rfl) ea_nil)))))⟩⟩

noncomputable def m_are_pairs (rooms_1 thing_2 : U) : M U := fnM (seqO (S := Unit) (iteW (notT (testW (op1 (isiU · "tuple") (.ret thing_2)))) (rtO (.ret (.bl false))) (nxO ())) fun s_3 => (seqO (S := Unit) (.bind (itW (.ret thing_2)) fun us => forO (fun pair_5 s_4 => (iteW (orT (notT (testW (op1 (isiU · "tuple") (.ret pair_5)))) (orT (testW (op2 neU (op1 lenU (.ret pair_5)) (.ret (.int 2)))) (notT (testW (op1 allU (lcW (itW (.ret pair_5)) (fun part_6 => (.ret true)) fun part_6 => (callM (L2' m_are_rooms) (consA (.ret rooms_1) (consA (.ret part_6) nilA))))))))) (rtO (.ret (.bl false))) (nxO ()))) us ()) fun s_4 => (rtO (.ret (.bl true)))))
theorem w_are_pairs {P : Program} {w : World} {K : PySem.W.Frag} {mg : Str → Option Value} {bs : Heap} (N : En w K mg) : FnOk P w K mg bs CX0 5 (He.ga K "are_pairs") N.fd_are_pairs ["rooms", "thing"] (spM ⟨K, He.ga K⟩ (L2' m_are_pairs)) :=
  fn_okF N.F_are_pairs sc_are_pairs (ar2 fun _ _ => rfl) fun cv A o s H E hr => ⟨_, PSs.nox (pss_cons (ps_if (pt_not (pt_val (pe_callB (call_isiK K) (by rfl) N.m_isinstance (by decide +kernel) (pa_cons (pv 1) (pa_cons (pe_bltn (v := .ty "tuple") (by rfl) N.m_tuple (by decide +kernel) rfl) pa_nil)))))
 (pss_one (ps_ret pe_bl))
 pss_nil)
 (pss_cons (ps_for PassesOwn.never rfl (pi_seqK K (pv 1)) (pg_name (i := 2) sc_are_pairs.nd rfl (.inl rfl))
 (pss_one (ps_if (PW.pt (pw_or (pt_not (pt_val (pe_callB (call_isiK K) (by rfl) N.m_isinstance (by decide +kernel) (pa_cons (pv 2) (pa_cons (pe_bltn (v := .ty "tuple") (by rfl) N.m_tuple (by decide +kernel) rfl) pa_nil))))) (pw_or (pt_cmpR (op_neK K hr.units) (pe_callB (call_lenK K) (by rfl) N.m_len PySem.boot_len (pa_cons (pv 2) pa_nil)) pe_int (nomark _)) (pw_or1 (pt_not (pt_val (pe_callB (cr_allK K rfl) (by rfl) N.m_all (by decide +kernel) (pa_cons (pe_lc (own := [("part", 3)]) (by rfl) sc_are_pairs.nd (pi_seqK K (pv 2)) (blkOk_by (own := [("part", 3)]) (N := N_are_pairs) (sc := defScope s_are_pairs) (by decide +kernel)) (fun _ _ _ _ _ => (pg_name (i := 3) sc_are_pairs.nd rfl (.inl rfl))) (fun _ _ _ _ _ => pts_nil) (fun _ _ _ _ _ => (pe_call (w_are_rooms N) (hr.mono (by decide)) (by rfl) N.g_are_rooms N.F_are_rooms.kp N.b_are_rooms .nil pass0 (pa_cons (pv 0) (pa_cons (pv 3) pa_nil))))) pa_nil))))))))
 (pss_one (ps_ret pe_bl))
 pss_nil)))
 (pss_one (ps_ret pe_bl)))),
   fun B H0 as0 => ar2 fun rooms_1 thing_2 => ⟨_, rfl,
 (blk_seq (blk_ifL (S := Unit) (fun s_3 => [some (.im rooms_1), some (.im thing_2), none, none]) (et_not (et_B (EvW.r (ev_isi (EvW.r (ev_var (i := 1) rfl))))))
 (blk_ret (EvW.f ev_bl))
 (blk_fin [] (by rfl))) fun s_3 =>
 (blk_seq (blk_forL (S := Unit) [2] [2] (fun s_4 => [some (.im rooms_1), some (.im thing_2), none, none]) (by rfl) (src_it (ev_var (i := 1) rfl))
 (fun s_4 pair_5 st r q => ⟨_, tg_name (by decide), (blk_if (et_or (et_not (et_B (EvW.r (ev_isi (EvW.r (ev_var (i := 2) rfl)))))) (et_or (et_test (EvW.r (ev_op ok_ne (EvW.r (ev_cb1 ok_len (EvW.r (ev_var (i := 2) rfl)))) (EvW.r ev_int)))) (et_not (et_B (EvW.r (ev_cb1 ok_all (EvW.r (EvN.ew (en_lc (by rfl) (src_it (ev_var (i := 2) rfl)) fun part_6 st r q => ⟨_, tg_name (by decide), et_yes, (ev_call (ea_cons (ev_var (i := 0) rfl) (ea_cons (ev_var (i := 3) rfl) ea_nil)))⟩)))))))))
 (blk_ret (EvW.f ev_bl))
 (blk_fin [2] (by rfl)))⟩)) fun s_4 =>
 (blk_ret (EvW.f ev_bl))))⟩⟩

noncomputable def m_are_ranks (rooms_1 thing_2 : U) : M U := fnM (rtO (andW (op1 (isiU · "tuple") (.ret thing_2)) (andW (op2 eqU (op1 lenU (.ret thing_2)) (.ret rooms_1)) (op1 allU (lcW (itW (.ret thing_2)) (fun one_3 => (.ret true)) fun one_3 => (andW (callM (L1 m_is_whole) (consA (.ret one_3) nilA)) (op2 geU (.ret one_3) (.ret (.int 0)))))))))
theorem w_are_ranks {P : Program} {w : World} {K : PySem.W.Frag} {mg : Str → Option Value} {bs : Heap} (N : En w K mg) : FnOk P w K mg bs CX0 2 (He.ga K "are_ranks") N.fd_are_ranks ["rooms", "thing"] (spM ⟨K, He.ga K⟩ (L2' m_are_ranks)) :=
  fn_okF N.F_are_ranks sc_are_ranks (ar2 fun _ _ => rfl) fun cv A o s H E hr => ⟨_, PSs.nox (pss_one (ps_ret (pe_and (pe_callB (call_isiK K) (by rfl) N.m_isinstance (by decide +kernel) (pa_cons (pv 1) (pa_cons (pe_bltn (v := .ty "tuple") (by rfl) N.m_tuple (by decide +kernel) rfl) pa_nil))) (pe_and (pe_cmpR (op_eqK K hr.units) (pe_callB (call_lenK K) (by rfl) N.m_len PySem.boot_len (pa_cons (pv 1) pa_nil)) (pv 0) (nomark _)) (pe_one (pe_callB (cr_allK K rfl) (by rfl) N.m_all (by decide +kernel) (pa_cons (pe_lc (own := [("one", 2)]) (by rfl) sc_are_ranks.nd (pi_seqK K (pv 1)) (blkOk_by (own := [("one", 2)]) (N := N_are_ranks) (sc := defScope s_are_ranks) (by decide +kernel)) (fun _ _ _ _ _ => (pg_name (i := 2) sc_are_ranks.nd rfl (.inl rfl))) (fun _ _ _ _ _ => pts_nil) (fun _ _ _ _ _ => (pe_and (pe_call (w_is_whole N) (hr.mono (by decide)) (by rfl) N.g_is_whole N.F_is_whole.kp N.b_is_whole .nil pass0 (pa_cons (pv 2) pa_nil)) (pe_one (pe_cmpR op_ge (pv 2) pe_int (nomark _)))))) pa_nil))))))),
   fun B H0 as0 => ar2 fun rooms_1 thing_2 => ⟨_, rfl,
 (blk_ret (EvW.f (ev_and (EvW.r (ev_isi (EvW.r (ev_var (i := 1) rfl)))) (ev_and (EvW.r (ev_op ok_eq (EvW.r (ev_cb1 ok_len (EvW.r (ev_var (i := 1) rfl)))) (EvW.r (ev_var (i := 0) rfl)))) (ev_cb1 ok_all (EvW.r (EvN.ew (en_lc (by rfl) (src_it (ev_var (i := 1) rfl)) fun one_3 st r q => ⟨_, tg_name (by decide), et_yes, (ev_and (EvW.r (ev_call (ea_cons (ev_var (i := 2) rfl) ea_nil))) (ev_op ok_ge (EvW.r (ev_var (i := 2) rfl)) (EvW.r ev_int)))⟩))))))))⟩⟩

noncomputable def m_are_ways (letters_1 rooms_2 thing_3 : U) : M U := fnM (seqO (S := Unit) (iteW (notT (testW (op1 (isiU · "tuple") (.ret thing_3)))) (rtO (.ret (.bl false))) (nxO ())) fun s_4 => (seqO (S := Unit) (.bind (itW (.ret thing_3)) fun us => forO (fun way_6 s_5 => (seqO (S := Unit) (iteW (orT (notT (testW (op1 (isiU · "tuple") (.ret way_6)))) (testW (op2 neU (op1 lenU (.ret way_6)) (.ret (.int 3))))) (rtO (.ret (.bl false))) (nxO ())) fun s_7 => (iteW (orT (notT (testW (callM (L2' m_is_below) (consA (op2 ixU (.ret way_6) (.ret (.int 0))) (consA (.ret rooms_2) nilA))))) (orT (notT (testW (callM (L2' m_is_below) (consA (op2 ixU (.ret way_6) (.ret (.int 1))) (consA (.ret letters_1) nilA))))) (notT (testW (callM (L2' m_is_below) (consA (op2 ixU (.ret way_6) (.ret (.int 2))) (consA (.ret rooms_2) nilA))))))) (rtO (.ret (.bl false))) (nxO ())))) us ()) fun s_5 => (rtO (callM (L1 m_are_rising) (consA (.ret thing_3) nilA)))))
theorem w_are_ways {P : Program} {w : World} {K : PySem.W.Frag} {mg : Str → Option Value} {bs : Heap} (N : En w K mg) : FnOk P w K mg bs CX0 3 (He.ga K "are_ways") N.fd_are_ways ["letters", "rooms", "thing"] (spM ⟨K, He.ga K⟩ (L3 m_are_ways)) :=
  fn_okF N.F_are_ways sc_are_ways (ar3 fun _ _ _ => rfl) fun cv A o s H E hr => ⟨_, PSs.nox (pss_cons (ps_if (pt_not (pt_val (pe_callB (call_isiK K) (by rfl) N.m_isinstance (by decide +kernel) (pa_cons (pv 2) (pa_cons (pe_bltn (v := .ty "tuple") (by rfl) N.m_tuple (by decide +kernel) rfl) pa_nil)))))
 (pss_one (ps_ret pe_bl))
 pss_nil)
 (pss_cons (ps_for PassesOwn.never rfl (pi_seqK K (pv 2)) (pg_name (i := 3) sc_are_ways.nd rfl (.inl rfl))
 (pss_cons (ps_if (PW.pt (pw_or (pt_not (pt_val (pe_callB (call_isiK K) (by rfl) N.m_isinstance (by decide +kernel) (pa_cons (pv 3) (pa_cons (pe_bltn (v := .ty "tuple") (by rfl) N.m_tuple (by decide +kernel) rfl) pa_nil))))) (pw_or1 (pt_cmpR (op_neK K hr.units) (pe_callB (call_lenK K) (by rfl) N.m_len PySem.boot_len (pa_cons (pv 3) pa_nil)) pe_int (nomark _)))))
 (pss_one (ps_ret pe_bl))
 pss_nil)
 (pss_one (ps_if (PW.pt (pw_or (pt_not (pt_val (pe_call (w_is_below N) (hr.mono (by decide)) (by rfl) N.g_is_below N.F_is_below.kp N.b_is_below .nil pass0 (pa_cons (pe_ix (ix_seqK K) (pv 3) pe_int (fun _ _ => rfl)) (pa_cons (pv 1) pa_nil))))) (pw_or (pt_not (pt_val (pe_call (w_is_below N) (hr.mono (by decide)) (by rfl) N.g_is_below N.F_is_below.kp N.b_is_below .nil pass0 (pa_cons (pe_ix (ix_seqK K) (pv 3) pe_int (fun _ _ => rfl)) (pa_cons (pv 0) pa_nil))))) (pw_or1 (pt_not (pt_val (pe_call (w_is_below N) (hr.mono (by decide)) (by rfl) N.g_is_below N.F_is_below.kp N.b_is_below .nil pass0 (pa_cons (pe_ix (ix_seqK K) (pv 3) pe_int (fun _ _ => rfl)) (pa_cons (pv 1) pa_nil)))))))))
 (pss_one (ps_ret pe_bl))
 pss_nil))))
 (pss_one (ps_ret (pe_call (w_are_rising N) (hr.mono (by decide)) (by rfl) N.g_are_rising N.F_are_rising.kp N.b_are_rising .nil pass0 (pa_cons (pv 2) pa_nil)))))),
   fun B H0 as0 => ar3 fun letters_1 rooms_2 thing_3 => ⟨_, rfl,
 (blk_seq (blk_ifL (S := Unit) (fun s_4 => [some (.im letters_1), some (.im rooms_2), some (.im thing_3), none]) (et_not (et_B (EvW.r (ev_isi (EvW.r (ev_var (i := 2) rfl))))))
 (blk_ret (EvW.f ev_bl))
 (blk_fin [] (by rfl))) fun s_4 =>
 (blk_seq (blk_forL (S := Unit) [3] [3] (fun s_5 => [some (.im letters_1), some (.im rooms_2), some (.im thing_3), none]) (by rfl) (src_it (ev_var (i := 2) rfl))
 (fun s_5 way_6 st r q => ⟨_, tg_name (by decide), (blk_seq (blk_ifL (S := Unit) (fun s_7 => [some (.im letters_1), some (.im rooms_2), some (.im thing_3), some (.im way_6)]) (et_or (et_not (et_B (EvW.r (ev_isi (EvW.r (ev_var (i := 3) rfl)))))) (et_test (EvW.r (ev_op ok_ne (EvW.r (ev_cb1 ok_len (EvW.r (ev_var (i := 3) rfl)))) (EvW.r ev_int)))))
 (blk_ret (EvW.f ev_bl))
 (blk_fin [] (by rfl))) fun s_7 =>
 (blk_if (et_or (et_not (et_B (EvW.r (ev_call (ea_cons (ev_op ok_ix (EvW.r (ev_var (i := 3) rfl)) (EvW.r ev_int)) (ea_cons (ev_var (i := 1) rfl) ea_nil)))))) (et_or (et_not (et_B (EvW.r (ev_call (ea_cons (ev_op ok_ix (EvW.r (ev_var (i := 3) rfl)) (EvW.r ev_int)) (ea_cons (ev_var (i := 0) rfl) ea_nil)))))) (et_not (et_B (EvW.r (ev_call (ea_cons (ev_op ok_ix (EvW.r (ev_var (i := 3) rfl)) (EvW.r ev_int)) (ea_cons (ev_var (i := 1) rfl) ea_nil))))))))
 (blk_ret (EvW.f ev_bl))
 (blk_fin [3] (by rfl))))⟩)) fun s_5 =>
 (blk_ret (EvW.f (ev_call (ea_cons (ev_var (i := 2) rfl) ea_nil))))))⟩⟩

noncomputable def m_fault_of (letters_1 rooms_2 start_3 ways_4 kind_5 by_6 : U) : M U := fnM (seqO (S := Unit) (iteW (orT (notT (testW (callM (L1 m_is_whole) (consA (.ret letters_1) nilA)))) (notT (testW (chainW leU leU (.ret (.int 1)) (.ret letters_1) (.ret (.int 4)))))) (rtO (.ret (.str "letters"))) (nxO ())) fun s_7 => (seqO (S := Unit) (iteW (orT (notT (testW (callM (L1 m_is_whole) (consA (.ret rooms_2) nilA)))) (testW (op2 ltU (.ret rooms_2) (.ret (.int 1))))) (rtO (.ret (.str "rooms"))) (nxO ())) fun s_8 => (seqO (S := Unit) (iteW (notT (testW (callM (L2' m_is_below) (consA (.ret start_3) (consA (.ret rooms_2) nilA))))) (rtO (.ret (.str "start"))) (nxO ())) fun s_9 => (seqO (S := Unit) (iteW (notT (testW (callM (L3 m_are_ways) (consA (.ret letters_1) (consA (.ret rooms_2) (consA (.ret ways_4) nilA)))))) (rtO (.ret (.str "ways"))) (nxO ())) fun s_10 => (seqO (S := Unit) (iteW (orT (notT (testW (op1 (isiU · "str") (.ret kind_5)))) (testW (op2 (notTabU "KINDS" tab_KINDS) (.ret kind_5) (.ret (.top "KINDS"))))) (rtO (.ret (.str "kind"))) (nxO ())) fun s_11 => (.bind (op2 (itemTabU "KINDS" tab_KINDS) (.ret (.top "KINDS")) (.ret kind_5)) fun looked_12 => (rtO (iteW (testW (callJM [("are_rooms", L2' m_are_rooms), ("are_pairs", L2' m_are_pairs), ("are_ranks", L2' m_are_ranks)] looked_12 (consA (.ret rooms_2) (consA (.ret by_6) nilA)))) (.ret .non) (.ret (.str "by"))))))))))
theorem w_fault_of {P : Program} {w : World} {K : PySem.W.Frag} {mg : Str → Option Value} {bs : Heap} (N : En w K mg) : FnOk P w K mg bs CX0 6 (He.ga K "fault_of") N.fd_fault_of ["letters", "rooms", "start", "ways", "kind", "by"] (spM ⟨K, He.ga K⟩ (L6 m_fault_of)) :=
  fn_okF N.F_fault_of sc_fault_of (ar6 fun _ _ _ _ _ _ => rfl) fun cv A o s H E hr => ⟨_, PSs.nox (pss_cons (ps_if (PW.pt (pw_or (pt_not (pt_val (pe_call (w_is_whole N) (hr.mono (by decide)) (by rfl) N.g_is_whole N.F_is_whole.kp N.b_is_whole .nil pass0 (pa_cons (pv 0) pa_nil)))) (pw_or1 (pt_not (pt_chain op_le op_le pe_int (pv 0) (pe_glob (v := .int 4) rfl N.k_MOST_LETTERS ⟨_, rfl⟩))))))
 (pss_one (ps_ret pe_str))
 pss_nil)
 (pss_cons (ps_if (PW.pt (pw_or (pt_not (pt_val (pe_call (w_is_whole N) (hr.mono (by decide)) (by rfl) N.g_is_whole N.F_is_whole.kp N.b_is_whole .nil pass0 (pa_cons (pv 1) pa_nil)))) (pw_or1 (pt_cmpR (op_ltK K hr.units) (pv 1) pe_int (nomark _)))))
 (pss_one (ps_ret pe_str))
 pss_nil)
 (pss_cons (ps_if (pt_not (pt_val (pe_call (w_is_below N) (hr.mono (by decide)) (by rfl) N.g_is_below N.F_is_below.kp N.b_is_below .nil pass0 (pa_cons (pv 2) (pa_cons (pv 1) pa_nil)))))
 (pss_one (ps_ret pe_str))
 pss_nil)
 (pss_cons (ps_if (pt_not (pt_val (pe_call (w_are_ways N) (hr.mono (by decide)) (by rfl) N.g_are_ways N.F_are_ways.kp N.b_are_ways .nil pass0 (pa_cons (pv 0) (pa_cons (pv 1) (pa_cons (pv 3) pa_nil))))))
 (pss_one (ps_ret pe_str))
 pss_nil)
 (pss_cons (ps_if (PW.pt (pw_or (pt_not (pt_val (pe_callB (call_isiK K) (by rfl) N.m_isinstance (by decide +kernel) (pa_cons (pv 4) (pa_cons (pe_bltn (v := .ty "str") (by rfl) N.m_str (by decide +kernel) rfl) pa_nil))))) (pw_or1 (pt_cmpR (op_notTabK K N.T_KINDS) (pv 4) (pe_glob (v := .ref (He.ga K "KINDS")) rfl N.g_KINDS rfl) (by rfl)))))
 (pss_one (ps_ret pe_str))
 pss_nil)
 (pss_cons (ps_set (i := 6) sc_fault_of.nd rfl (.inl rfl) (pe_ix (ix_kdictK K w) (pe_glob (v := .ref (He.ga K "KINDS")) rfl N.g_KINDS rfl) (pv 4) (fun _ _ => rfl)))
 (pss_one (ps_ret (pe_ifExp (pt_val (pe_callJ (callJ_cons (pe_callL (i := 6) (w_are_rooms N) (hr.mono (by decide)) rfl (by first | exact Or.inl rfl | exact Or.inr (Or.inl rfl) | exact Or.inr (Or.inr rfl)) N.F_are_rooms.kp N.b_are_rooms .nil pass0 (pa_cons (pv 1) (pa_cons (pv 5) pa_nil))) (callJ_cons (pe_callL (i := 6) (w_are_pairs N) (hr.mono (by decide)) rfl (by first | exact Or.inl rfl | exact Or.inr (Or.inl rfl) | exact Or.inr (Or.inr rfl)) N.F_are_pairs.kp N.b_are_pairs .nil pass0 (pa_cons (pv 1) (pa_cons (pv 5) pa_nil))) (callJ_cons (pe_callL (i := 6) (w_are_ranks N) (hr.mono (by decide)) rfl (by first | exact Or.inl rfl | exact Or.inr (Or.inl rfl) | exact Or.inr (Or.inr rfl)) N.F_are_ranks.kp N.b_are_ranks .nil pass0 (pa_cons (pv 1) (pa_cons (pv 5) pa_nil))) callJ_nil))))) pe_non pe_str))))))))),
   fun B H0 as0 => ar6 fun letters_1 rooms_2 start_3 ways_4 kind_5 by_6 => ⟨_, rfl,
 (blk_seq (blk_ifL (S := Unit) (fun s_7 => [some (.im letters_1), some (.im rooms_2), some (.im start_3), some (.im ways_4), some (.im kind_5), some (.im by_6), none]) (et_or (et_not (et_B (EvW.r (ev_call (ea_cons (ev_var (i := 0) rfl) ea_nil))))) (et_not (et_test (EvW.r (ev_chain ok_le ok_le (EvW.r ev_int) (EvW.r (ev_var (i := 0) rfl)) (EvW.r ev_int))))))
 (blk_ret (EvW.f ev_str))
 (blk_fin [] (by rfl))) fun s_7 =>
 (blk_seq (blk_ifL (S := Unit) (fun s_8 => [some (.im letters_1), some (.im rooms_2), some (.im start_3), some (.im ways_4), some (.im kind_5), some (.im by_6), none]) (et_or (et_not (et_B (EvW.r (ev_call (ea_cons (ev_var (i := 1) rfl) ea_nil))))) (et_test (EvW.r (ev_op ok_lt (EvW.r (ev_var (i := 1) rfl)) (EvW.r ev_int)))))
 (blk_ret (EvW.f ev_str))
 (blk_fin [] (by rfl))) fun s_8 =>
 (blk_seq (blk_ifL (S := Unit) (fun s_9 => [some (.im letters_1), some (.im rooms_2), some (.im start_3), some (.im ways_4), some (.im kind_5), some (.im by_6), none]) (et_not (et_B (EvW.r (ev_call (ea_cons (ev_var (i := 2) rfl) (ea_cons (ev_var (i := 1) rfl) ea_nil))))))
 (blk_ret (EvW.f ev_str))
 (blk_fin [] (by rfl))) fun s_9 =>
 (blk_seq (blk_ifL (S := Unit) (fun s_10 => [some (.im letters_1), some (.im rooms_2), some (.im start_3), some (.im ways_4), some (.im kind_5), some (.im by_6), none]) (et_not (et_B (EvW.r (ev_call (ea_cons (ev_var (i := 0) rfl) (ea_cons (ev_var (i := 1) rfl) (ea_cons (ev_var (i := 3) rfl) ea_nil)))))))
 (blk_ret (EvW.f ev_str))
 (blk_fin [] (by rfl))) fun s_10 =>
 (blk_seq (blk_ifL (S := Unit) (fun s_11 => [some (.im letters_1), some (.im rooms_2), some (.im start_3), some (.im ways_4), some (.im kind_5), some (.im by_6), none]) (et_or (et_not (et_B (EvW.r (ev_isi (EvW.r (ev_var (i := 4) rfl)))))) (et_test (EvW.r (ev_op (ok_notTab N.T_KINDS) (EvW.r (ev_var (i := 4) rfl)) (EvW.r ev_top)))))
 (blk_ret (EvW.f ev_str))
 (blk_fin [] (by rfl))) fun s_11 =>
 (blk_set (i := 6) (ev_op (ok_itemTab N.T_KINDS) (EvW.r ev_top) (EvW.r (ev_var (i := 4) rfl))) fun looked_12 =>
 (blk_ret (EvW.f (ev_if (et_B (EvW.r (ev_callJ (i := 6) rfl (ea_cons (ev_var (i := 1) rfl) (ea_cons (ev_var (i := 5) rfl) ea_nil))))) ev_non ev_str)))))))))⟩⟩

noncomputable def m_Hall___init__ (self_1 letters_2 rooms_3 start_4 ways_5 kind_6 by_7 : U) : M U := fnM (.bind (callM (L6 m_fault_of) (consA (.ret letters_2) (consA (.ret rooms_3) (consA (.ret start_4) (consA (.ret ways_5) (consA (.ret kind_6) (consA (.ret by_7) nilA))))))) fun why_8 => (seqO (S := Unit) (iteW (testW (.bind (.ret why_8) fun a => .ret (.bl (!isNU a)))) (.raise .non) (nxO ())) fun s_9 => (.bind (.bind (.ret letters_2) fun u => .o (leafO u)) fun x => .bind (locM self_1) fun c => .bind (.o (newF ["Hall"] "letters" c x)) fun u => .bind (putC c.1 u) fun _ => (.bind (.bind (.ret rooms_3) fun u => .o (leafO u)) fun x => .bind (locM self_1) fun c => .bind (.o (newF ["Hall"] "rooms" c x)) fun u => .bind (putC c.1 u) fun _ => (.bind (.bind (.ret start_4) fun u => .o (leafO u)) fun x => .bind (locM self_1) fun c => .bind (.o (newF ["Hall"] "start" c x)) fun u => .bind (putC c.1 u) fun _ => (.bind (.bind (.ret ways_5) fun u => .o (leafO u)) fun x => .bind (locM self_1) fun c => .bind (.o (newF ["Hall"] "ways" c x)) fun u => .bind (putC c.1 u) fun _ => (.bind (.bind (.ret kind_6) fun u => .o (leafO u)) fun x => .bind (locM self_1) fun c => .bind (.o (newF ["Hall"] "kind" c x)) fun u => .bind (putC c.1 u) fun _ => (.bind (.bind (.ret by_7) fun u => .o (leafO u)) fun x => .bind (locM self_1) fun c => .bind (.o (newF ["Hall"] "by" c x)) fun u => .bind (putC c.1 u) fun _ => (.bind (lcW (rng1W (.ret rooms_3)) (fun room_10 => (.ret true)) fun room_10 => (.ret (.dct [] []))) fun x => .bind (locM self_1) fun c => .bind (.o (newF ["Hall"] "goals" c x)) fun u => .bind (putC c.1 u) fun _ => (seqO (S := Unit) (.bind (itW (.ret ways_5)) fun us => forO (fun e_15 s_11 => un3 e_15 fun room_12 letter_13 end_14 => (.bind (.bind (.bind (.bind (.ret self_1) locM) fun c => .o (fldC ["Hall"] "goals" c)) fun c => .bind (.ret room_12) fun n => .o (ixC c n)) fun c => .bind (.ret letter_13) fun y => .bind (.o (sdAppU c.2.1 y end_14)) fun d => .bind (putC c.1 (c.2.2 d)) fun _ => (nxO ()))) us ()) fun s_11 => (nxO ())))))))))))
theorem w_Hall___init__ {P : Program} {w : World} {K : PySem.W.Frag} {mg : Str → Option Value} {bs : Heap} (N : En w K mg) : FnOk P w K mg bs CX0 7 (He.ma K (He.ga K "Hall") "__init__") N.fd_Hall___init__ ["self", "letters", "rooms", "start", "ways", "kind", "by"] (spM ⟨K, He.ga K⟩ (L7 m_Hall___init__)) :=
  fn_okF N.F_Hall___init__ sc_Hall___init__ (ar7 fun _ _ _ _ _ _ _ => rfl) fun cv A o s H E hr => ⟨_, PSs.nox (pss_cons (ps_set (i := 7) sc_Hall___init__.nd rfl (.inl rfl) (pe_call (w_fault_of N) (hr.mono (by decide)) (by rfl) N.g_fault_of N.F_fault_of.kp N.b_fault_of .nil pass0 (pa_cons (pv 1) (pa_cons (pv 2) (pa_cons (pv 3) (pa_cons (pv 4) (pa_cons (pv 5) (pa_cons (pv 6) pa_nil))))))))
 (pss_cons (ps_if (pt_cmpR op_notN (pv 7) pe_non (nomark _))
 (pss_one ps_never)
 pss_nil)
 (pss_cons (ps_fld (pv 0) (pv 1) rfl)
 (pss_cons (ps_fld (pv 0) (pv 2) rfl)
 (pss_cons (ps_fld (pv 0) (pv 3) rfl)
 (pss_cons (ps_fld (pv 0) (pv 4) rfl)
 (pss_cons (ps_fld (pv 0) (pv 5) rfl)
 (pss_cons (ps_fld (pv 0) (pv 6) rfl)
 (pss_cons (ps_fld (pv 0) (pe_lc (own := [("room", 8)]) (by rfl) sc_Hall___init__.nd (pi_range1 (by rfl) N.m_range (pa_cons (pv 2) pa_nil)) (blkOk_by (own := [("room", 8)]) (N := N_Hall___init__) (sc := defScope s_Hall___init__) (by decide +kernel)) (fun _ _ _ _ _ => (pg_name (i := 8) sc_Hall___init__.nd rfl (.inl rfl))) (fun _ _ _ _ _ => pts_nil) (fun _ _ _ _ _ => pe_dnewK)) rfl)
 (pss_one (ps_for PassesOwn.never rfl (pi_seqK K (pv 4)) (pg_tup rfl (pgs_cons (pg_name (i := 8) sc_Hall___init__.nd rfl (.inl rfl)) (pgs_cons (pg_name (i := 9) sc_Hall___init__.nd rfl (.inl rfl)) (pgs_cons (pg_name (i := 10) sc_Hall___init__.nd rfl (.inl rfl)) pgs_nil))))
 (pss_one (ps_expr (pe_bm PySem.F.plainAttrs_list PySem.F.slot_list_append PySem.F.type_list_append mt_append (pe_dsetd (pe_ix (ix_seqK K) (pe_fldK K (pv 0) rfl) (pv 8) (fun _ _ => rfl)) (pv 9) (pe_lst pa_nil) ⟨rfl, rfl, rfl, rfl⟩) (pa_cons (pv 10) pa_nil))))))))))))))),
   fun B H0 as0 => ar7 fun self_1 letters_2 rooms_3 start_4 ways_5 kind_6 by_7 => ⟨_, rfl,
 (blk_set (i := 7) (ev_call (ea_cons (ev_var (i := 1) rfl) (ea_cons (ev_var (i := 2) rfl) (ea_cons (ev_var (i := 3) rfl) (ea_cons (ev_var (i := 4) rfl) (ea_cons (ev_var (i := 5) rfl) (ea_cons (ev_var (i := 6) rfl) ea_nil))))))) fun why_8 =>
 (blk_seq (blk_ifL (S := Unit) (fun s_9 => [some (.im self_1), some (.im letters_2), some (.im rooms_3), some (.im start_4), some (.im ways_5), some (.im kind_6), some (.im by_7), some (.im why_8), none, none, none]) (et_test (EvW.r (ev_notN (EvW.r (ev_var (i := 7) rfl)))))
 blk_never
 (blk_fin [] (by rfl))) fun s_9 =>
 (blk_fldC N.hf_letters (enf_leaf (ev_var (i := 1) rfl)) (j := 0) rfl
 (blk_fldC N.hf_rooms (enf_leaf (ev_var (i := 2) rfl)) (j := 0) rfl
 (blk_fldC N.hf_start (enf_leaf (ev_var (i := 3) rfl)) (j := 0) rfl
 (blk_fldC N.hf_ways (enf_leaf (ev_var (i := 4) rfl)) (j := 0) rfl
 (blk_fldC N.hf_kind (enf_leaf (ev_var (i := 5) rfl)) (j := 0) rfl
 (blk_fldC N.hf_by (enf_leaf (ev_var (i := 6) rfl)) (j := 0) rfl
 (blk_fldC N.hf_goals (enf_lc (by rfl) (src_range1 (EvW.r (ev_var (i := 2) rfl))) fun room_10 st r q => ⟨_, tg_name (by decide), et_yes, enf_dK⟩) (j := 0) rfl
 (blk_last (blk_seq (blk_forL (S := Unit) [8, 9, 10] [8, 9, 10] (fun s_11 => [some (.im self_1), some (.im letters_2), some (.im rooms_3), some (.im start_4), some (.im ways_5), some (.im kind_6), some (.im by_7), some (.im why_8), none, none, none]) (by rfl) (src_it (ev_var (i := 4) rfl))
 (fun s_11 => pat3 (P := fun δ w => Blk _ _ δ w _ _) (by decide) (by decide) (by decide) fun room_12 letter_13 end_14 => (blk_last (blk_sdApp (ec_ix (ec_fld N.hf_goals (ec_loc (ev_var (i := 0) rfl))) (eq_var (i := 8) rfl)) (eq_var (i := 9) rfl) (j := 10) rfl
 (blk_fin [8, 9, 10] (by rfl)))))) fun s_11 =>
 (blk_fin [0, 1, 2, 3, 4, 5, 6, 7, 8, 9, 10] (by rfl)))))))))))))⟩⟩

noncomputable def m__law_made (parts_here_1 : U) : M U := fnM (rtO (mkM "Hall" (L7 m_Hall___init__) (consA (op2 ixU (.ret parts_here_1) (.ret (.int 0))) (consA (op2 ixU (.ret parts_here_1) (.ret (.int 1))) (consA (op2 ixU (.ret parts_here_1) (.ret (.int 2))) (consA (op2 ixU (.ret parts_here_1) (.ret (.int 3))) (consA (op2 ixU (.ret parts_here_1) (.ret (.int 4))) (consA (op2 ixU (.ret parts_here_1) (.ret (.int 5))) nilA))))))))
theorem w__law_made {P : Program} {w : World} {K : PySem.W.Frag} {mg : Str → Option Value} {bs : Heap} (N : En w K mg) : FnOk P w K mg bs CX0 9 (He.ga K "_law_made") N.fd__law_made ["_law_parts_here"] (spM ⟨K, He.ga K⟩ (L1 m__law_made)) :=
  fn_okF N.F__law_made sc__law_made (ar1 fun _ => rfl) fun cv A o s H E hr => ⟨_, PSs.nox (pss_one (ps_ret (pe_make N.mk_Hall (w_Hall___init__ N) (hr.mono (by decide)) (by rfl) N.g_Hall N.b_Hall___init__ .nil pass0 (pa_cons (pe_ix (ix_seqK K) (pv 0) pe_int (fun _ _ => rfl)) (pa_cons (pe_ix (ix_seqK K) (pv 0) pe_int (fun _ _ => rfl)) (pa_cons (pe_ix (ix_seqK K) (pv 0) pe_int (fun _ _ => rfl)) (pa_cons (pe_ix (ix_seqK K) (pv 0) pe_int (fun _ _ => rfl)) (pa_cons (pe_ix (ix_seqK K) (pv 0) pe_int (fun _ _ => rfl)) (pa_cons (pe_ix (ix_seqK K) (pv 0) pe_int (fun _ _ => rfl)) pa_nil))))))))),
   fun B H0 as0 => ar1 fun parts_here_1 => ⟨_, rfl,
 (blk_ret (EvW.f (ev_make (c := "Hall") (ea_cons (ev_op ok_ix (EvW.r (ev_var (i := 0) rfl)) (EvW.r ev_int)) (ea_cons (ev_op ok_ix (EvW.r (ev_var (i := 0) rfl)) (EvW.r ev_int)) (ea_cons (ev_op ok_ix (EvW.r (ev_var (i := 0) rfl)) (EvW.r ev_int)) (ea_cons (ev_op ok_ix (EvW.r (ev_var (i := 0) rfl)) (EvW.r ev_int)) (ea_cons (ev_op ok_ix (EvW.r (ev_var (i := 0) rfl)) (EvW.r ev_int)) (ea_cons (ev_op ok_ix (EvW.r (ev_var (i := 0) rfl)) (EvW.r ev_int)) ea_nil)))))))))⟩⟩

noncomputable def m_Hall_ends (self_1 room_2 letter_3 : U) : M U := fnM (rtO (op1 tupleU (.bind (op2 ixU (op1 (fldU ["Hall"] "goals") (.ret self_1)) (.ret room_2)) fun d => .bind (.ret letter_3) fun k => .bind (lstW nilA) fun z => .o (getD2 d k z))))
theorem w_Hall_ends {P : Program} {w : World} {K : PySem.W.Frag} {mg : Str → Option Value} {bs : Heap} (N : En w K mg) : FnOk P w K mg bs CX0 1 (He.ma K (He.ga K "Hall") "ends") N.fd_Hall_ends ["self", "room", "letter"] (spM ⟨K, He.ga K⟩ (L3 m_Hall_ends)) :=
  fn_okF N.F_Hall_ends sc_Hall_ends (ar3 fun _ _ _ => rfl) fun cv A o s H E hr => ⟨_, PSs.nox (pss_one (ps_ret (pe_callTy (call_tupleK K) (by rfl) N.m_tuple (by decide +kernel) (pa_cons (pe_dget2 (hu_of hr) (pe_ix (ix_seqK K) (pe_fldK K (pv 0) rfl) (pv 1) (fun _ _ => rfl)) (pv 2) (pe_lst pa_nil) ⟨rfl, rfl, rfl, rfl⟩) pa_nil)))),
   fun B H0 as0 => ar3 fun self_1 room_2 letter_3 => ⟨_, rfl,
 (blk_ret (EvW.f (ev_cb1 ok_tuple (EvW.r (ev_dget2 (EvW.r (ev_op ok_ix (EvW.r (ev_fld N.hf_goals (EvW.r (ev_var (i := 0) rfl)))) (EvW.r (ev_var (i := 1) rfl)))) (EvW.r (ev_var (i := 2) rfl)) (EvN.ew (en_lst ea_nil)))))))⟩⟩

noncomputable def m_Strides_entered (self_1 bits_2 room_3 : U) : M U := fnM (.bind (op2 andU (.ret bits_2) (op2 ixU (op1 (fldU ["Strides"] "staying") (.ret self_1)) (.ret room_3))) fun held_4 => (rtO (op2 orU (.ret held_4) (op2 mulU (.ret (.int 2)) (op2 andU (.ret held_4) (op2 ixU (op1 (fldU ["Strides"] "rising") (.ret self_1)) (.ret room_3)))))))
theorem w_Strides_entered {P : Program} {w : World} {K : PySem.W.Frag} {mg : Str → Option Value} {bs : Heap} (N : En w K mg) : FnOk P w K mg bs CX0 1 (He.ma K (He.ga K "Strides") "entered") N.fd_Strides_entered ["self", "bits", "room"] (spM ⟨K, He.ga K⟩ (L3 m_Strides_entered)) :=
  fn_okF N.F_Strides_entered sc_Strides_entered (ar3 fun _ _ _ => rfl) fun cv A o s H E hr => ⟨_, PSs.nox (pss_cons (ps_set (i := 3) sc_Strides_entered.nd rfl (.inl rfl) (pe_op op_and (pv 1) (pe_ix (ix_seqK K) (pe_fldK K (pv 0) rfl) (pv 2) (fun _ _ => rfl))))
 (pss_one (ps_ret (pe_op op_or (pv 3) (pe_op (op_mulK K) pe_int (pe_op op_and (pv 3) (pe_ix (ix_seqK K) (pe_fldK K (pv 0) rfl) (pv 2) (fun _ _ => rfl)))))))),
   fun B H0 as0 => ar3 fun self_1 bits_2 room_3 => ⟨_, rfl,
 (blk_set (i := 3) (ev_op ok_and (EvW.r (ev_var (i := 1) rfl)) (EvW.r (ev_op ok_ix (EvW.r (ev_fld N.hf_staying (EvW.r (ev_var (i := 0) rfl)))) (EvW.r (ev_var (i := 2) rfl))))) fun held_4 =>
 (blk_ret (EvW.f (ev_op ok_or (EvW.r (ev_var (i := 3) rfl)) (EvW.r (ev_op ok_mul (EvW.r ev_int) (EvW.r (ev_op ok_and (EvW.r (ev_var (i := 3) rfl)) (EvW.r (ev_op ok_ix (EvW.r (ev_fld N.hf_rising (EvW.r (ev_var (i := 0) rfl)))) (EvW.r (ev_var (i := 2) rfl))))))))))))⟩⟩

noncomputable def m_Strides_onward (self_1 step_2 letter_3 : U) : M U := fnM (.bind (lstW nilA) fun found_4 => (seqO (S := U) (.bind (itW (.ret step_2)) fun us => forO (fun row_6 s_5 => (.bind (op2 mulLU (lstW (consA (.ret (.int 0)) nilA)) (op1 lenU (.ret row_6))) fun ends_7 => (seqO (S := U) (.bind (enumW (.ret row_6)) fun us => forO (fun e_16 s_8 => un2 e_16 fun room_9 bits_10 => (iteW (testW (op2 gtU (.ret bits_10) (.ret (.int 0)))) (seqO (S := U) (.bind (itW (methM "Hall" "ends" (L3 m_Hall_ends) (op1 (fldU ["Strides"] "walked") (.ret self_1)) (consA (.ret room_9) (consA (.ret letter_3) nilA)))) fun us => forO (fun end_12 s_11 => (.bind (.ret (s_11, id)) fun h => .bind (.ret end_12) fun n => .bind (.o (getItH h n)) fun x => .bind (methM "Strides" "entered" (L3 m_Strides_entered) (.ret self_1) (consA (.ret bits_10) (consA (.ret end_12) nilA))) fun y => .bind (.o (orU x y)) fun z => .bind (.o (setItH h n z)) fun ends_13 => (nxO ends_13))) us s_8) fun s_11 => (nxO s_11)) (nxO s_8))) us ends_7) fun s_8 => (.bindS (.bind (.ret (s_5, id)) fun h => .bind (consA (op1 tupleU (.ret s_8)) nilA) fun xs => .o (mutL appL h xs)) fun found_15 => (nxO found_15))))) us found_4) fun s_5 => (rtO (op1 tupleU (.ret s_5)))))
theorem w_Strides_onward {P : Program} {w : World} {K : PySem.W.Frag} {mg : Str → Option Value} {bs : Heap} (N : En w K mg) : FnOk P w K mg bs CX0 2 (He.ma K (He.ga K "Strides") "onward") N.fd_Strides_onward ["self", "step", "letter"] (spM ⟨K, He.ga K⟩ (L3 m_Strides_onward)) :=
  fn_okF N.F_Strides_onward sc_Strides_onward (ar3 fun _ _ _ => rfl) fun cv A o s H E hr => ⟨_, PSs.nox (pss_cons (ps_set (i := 3) sc_Strides_onward.nd rfl (.inl rfl) (pe_lst pa_nil))
 (pss_cons (ps_for PassesOwn.never rfl (pi_seqK K (pv 1)) (pg_name (i := 4) sc_Strides_onward.nd rfl (.inl rfl))
 (pss_cons (ps_set (i := 5) sc_Strides_onward.nd rfl (.inl rfl) (pe_op (op_mulK K) (pe_lst (pa_cons pe_int pa_nil)) (pe_callB (call_lenK K) (by rfl) N.m_len PySem.boot_len (pa_cons (pv 4) pa_nil))))
 (pss_cons (ps_for PassesOwn.never rfl (pi_enAK K (by rfl) N.m_enumerate (pa_cons (pv 4) pa_nil)) (pg_tup rfl (pgs_cons (pg_name (i := 6) sc_Strides_onward.nd rfl (.inl rfl)) (pgs_cons (pg_name (i := 7) sc_Strides_onward.nd rfl (.inl rfl)) pgs_nil)))
 (pss_one (ps_if (pt_cmpR op_gt (pv 7) pe_int (nomark _))
 (pss_one (ps_for PassesOwn.never rfl (pi_seqK K (pe_meth (pe_fldK K (pv 0) rfl) N.cl_Hall N.me_Hall_ends (w_Hall_ends N) (hr.mono (by decide)) N.b_Hall_ends .nil pass0 (pa_cons (pv 6) (pa_cons (pv 2) pa_nil)))) (pg_name (i := 8) sc_Strides_onward.nd rfl (.inl rfl))
 (pss_one (ps_augS (pv 5) (pv 8) (get_list K) (pe_meth (pv 0) N.cl_Strides N.me_Strides_entered (w_Strides_entered N) (hr.mono (by decide)) N.b_Strides_entered .nil pass0 (pa_cons (pv 7) (pa_cons (pv 8) pa_nil))) iop_or set_list))))
 pss_nil)))
 (pss_one (ps_expr (pe_bm PySem.F.plainAttrs_list PySem.F.slot_list_append PySem.F.type_list_append mt_append (pv 3) (pa_cons (pe_callTy (call_tupleK K) (by rfl) N.m_tuple (by decide +kernel) (pa_cons (pv 5) pa_nil)) pa_nil)))))))
 (pss_one (ps_ret (pe_callTy (call_tupleK K) (by rfl) N.m_tuple (by decide +kernel) (pa_cons (pv 3) pa_nil)))))),
   fun B H0 as0 => ar3 fun self_1 step_2 letter_3 => ⟨_, rfl,
 (blk_own (i := 3) (en_lst ea_nil) fun found_4 =>
 (blk_seq (blk_forL (S := U) [4, 5, 6, 7, 8] [4] (fun s_5 => [some (.im self_1), some (.im step_2), some (.im letter_3), some (.own (.lst .leaf) s_5), none, none, none, none, none]) (by rfl) (src_it (ev_var (i := 1) rfl))
 (fun s_5 row_6 st r q => ⟨_, tg_name (by decide), (blk_own (i := 5) (en_mulL (EvW.r (EvN.ew (en_lst (ea_cons ev_int ea_nil)))) (EvW.r (ev_cb1 ok_len (EvW.r (ev_var (i := 4) rfl))))) fun ends_7 =>
 (blk_seq (blk_forL (S := U) [6, 7, 8] [6, 7] (fun s_8 => [some (.im self_1), some (.im step_2), some (.im letter_3), some (.own (.lst .leaf) s_5), some (.im row_6), some (.own (.lst .leaf) s_8), none, none, none]) (by rfl) (src_enum (ev_var (i := 4) rfl))
 (fun s_8 => pat2 (P := fun δ w => Blk _ _ δ w _ _) (by decide) (by decide) fun room_9 bits_10 => (blk_if (et_test (EvW.r (ev_op ok_gt (EvW.r (ev_var (i := 7) rfl)) (EvW.r ev_int))))
 (blk_last (blk_seq (blk_forL (S := U) [8] [8] (fun s_11 => [some (.im self_1), some (.im step_2), some (.im letter_3), some (.own (.lst .leaf) s_5), some (.im row_6), some (.own (.lst .leaf) s_11), some (.im room_9), some (.im bits_10), none]) (by rfl) (src_it (ev_meth (c := "Hall") (ev_fld N.hf_walked (EvW.r (ev_var (i := 0) rfl))) (ea_cons (ev_var (i := 6) rfl) (ea_cons (ev_var (i := 2) rfl) ea_nil))))
 (fun s_11 end_12 st r q => ⟨_, tg_name (by decide), (blk_last (blk_augL (i := 5) ip_okOr (eh_slot (i := 5) rfl) (ev_var (i := 8) rfl) (ev_meth (c := "Strides") (ev_var (i := 0) rfl) (ea_cons (ev_var (i := 7) rfl) (ea_cons (ev_var (i := 8) rfl) ea_nil))) fun ends_13 =>
 (blk_fin [8] (by rfl))))⟩)) fun s_11 =>
 (blk_fin [6, 7, 8] (by rfl))))
 (blk_fin [6, 7, 8] (by rfl))))) fun s_8 =>
 (blk_last (blk_x2 (ex_mut mut_app (eh_slot (i := 3) rfl) (ea_cons (ev_cb1 ok_tuple (ev_ownL (i := 5) rfl)) ea_nil)) fun found_15 =>
 (blk_fin [4, 5, 6, 7, 8] (by rfl))))))⟩)) fun s_5 =>
 (blk_ret (EvW.f (ev_cb1 ok_tuple (ev_ownL (i := 3) rfl))))))⟩⟩

noncomputable def m_Strides_along (self_1 some_2 : U) : M U := fnM (.bind (op2 addU (.ret (.int 1)) (op1 sumLU (op1 (fldU ["Strides"] "marks") (.ret self_1)))) fun whole_3 => (.bind (lstRW (rng1W (op1 (fldU ["Hall"] "rooms") (op1 (fldU ["Strides"] "walked") (.ret self_1))))) fun rooms_4 => (.bind (op1 tupleU (lcW (itW (.ret rooms_4)) (fun room_10 => (.ret true)) fun room_10 => (op1 tupleU (lcW (itW (.ret rooms_4)) (fun end_12 => (.ret true)) fun end_12 => (op2 mulU (.ret whole_3) (op1 int1U (op2 eqU (.ret room_10) (.ret end_12)))))))) fun step_9 => (seqO (S := U) (.bind (itW (.ret some_2)) fun us => forO (fun letter_15 s_14 => (.bind (methM "Strides" "onward" (L3 m_Strides_onward) (.ret self_1) (consA (.ret s_14) (consA (.ret letter_15) nilA))) fun step_16 => (nxO step_16))) us step_9) fun s_14 => (rtO (.ret s_14))))))
theorem w_Strides_along {P : Program} {w : World} {K : PySem.W.Frag} {mg : Str → Option Value} {bs : Heap} (N : En w K mg) : FnOk P w K mg bs CX0 3 (He.ma K (He.ga K "Strides") "along") N.fd_Strides_along ["self", "some"] (spM ⟨K, He.ga K⟩ (L2' m_Strides_along)) :=
  fn_okF N.F_Strides_along sc_Strides_along (ar2 fun _ _ => rfl) fun cv A o s H E hr => ⟨_, PSs.nox (pss_cons (ps_set (i := 2) sc_Strides_along.nd rfl (.inr rfl) (pe_op (op_addK K) pe_int (pe_callB (cr_sumK K (by rfl)) (by rfl) N.m_sum (by decide +kernel) (pa_cons (pe_fldK K (pv 0) rfl) pa_nil))))
 (pss_cons (ps_set (i := 3) sc_Strides_along.nd rfl (.inr rfl) (pe_listRg (by rfl) (by rfl) N.m_list (prg_1 (by rfl) N.m_range (pe_fldK K (pe_fldK K (pv 0) rfl) rfl))))
 (pss_cons (ps_set (i := 4) sc_Strides_along.nd rfl (.inl rfl) (pe_callTy (call_tupleK K) (by rfl) N.m_tuple (by decide +kernel) (pa_cons (pe_lc (own := [("room", 6)]) (by rfl) sc_Strides_along.nd (pi_seqK K (pv 3)) (blkOk_by (own := [("room", 6)]) (N := N_Strides_along) (sc := defScope s_Strides_along) (by decide +kernel)) (fun _ _ _ _ _ => (pg_name (i := 6) sc_Strides_along.nd rfl (.inr rfl))) (fun _ _ _ _ _ => pts_nil) (fun _ _ _ _ _ => (pe_callTy (call_tupleK K) (by rfl) N.m_tuple (by decide +kernel) (pa_cons (pe_lc (own := [("end", 7)]) (by rfl) sc_Strides_along.nd (pi_seqK K (pv 3)) (blkOk_by (own := [("end", 7)]) (N := N_Strides_along) (sc := _) (by rfl)) (fun _ _ _ _ _ => (pg_name (i := 7) sc_Strides_along.nd rfl (.inl rfl))) (fun _ _ _ _ _ => pts_nil) (fun _ _ _ _ _ => (pe_op (op_mulK K) (pv 2) (pe_callTy call_int1 (by rfl) N.m_int (by decide +kernel) (pa_cons (pe_cmpR (op_eqK K hr.units) (pv 6) (pv 7) (nomark _)) pa_nil))))) pa_nil)))) pa_nil)))
 (pss_cons (ps_for PassesOwn.never rfl (pi_seqK K (pv 1)) (pg_name (i := 5) sc_Strides_along.nd rfl (.inl rfl))
 (pss_one (ps_set (i := 4) sc_Strides_along.nd rfl (.inl rfl) (pe_meth (pv 0) N.cl_Strides N.me_Strides_onward (w_Strides_onward N) (hr.mono (by decide)) N.b_Strides_onward .nil pass0 (pa_cons (pv 4) (pa_cons (pv 5) pa_nil))))))
 (pss_one (ps_ret (pv 4))))))),
   fun B H0 as0 => ar2 fun self_1 some_2 => ⟨_, rfl,
 (blk_set (i := 2) (ev_op ok_add (EvW.r ev_int) (EvW.r (ev_cb1 ok_sumL (EvW.r (ev_fld N.hf_marks (EvW.r (ev_var (i := 0) rfl))))))) fun whole_3 =>
 (blk_set (i := 3) (ev_lstRg (eg_1 (EvW.r (ev_fld N.hf_rooms (EvW.r (ev_fld N.hf_walked (EvW.r (ev_var (i := 0) rfl)))))))) fun rooms_4 =>
 (blk_set (i := 4) (ev_cb1 ok_tuple (EvW.r (EvN.ew (en_lc (by rfl) (src_it (ev_var (i := 3) rfl)) fun room_10 st r q => ⟨_, tg_name (by decide), et_yes, (ev_cb1 ok_tuple (EvW.r (EvN.ew (en_lc (by rfl) (src_it (ev_var (i := 3) rfl)) fun end_12 st r q => ⟨_, tg_name (by decide), et_yes, (ev_op ok_mul (EvW.r (ev_var (i := 2) rfl)) (EvW.r (ev_cb1 (ok_int1 (fun i H Q q => .inl ⟨i, rfl, q⟩) fun b H Q q => .inr ⟨b, rfl, q⟩) (EvW.r (ev_op ok_eq (EvW.r (ev_var (i := 6) rfl)) (EvW.r (ev_var (i := 7) rfl)))))))⟩))))⟩)))) fun step_9 =>
 (blk_seq (blk_forL (S := U) [5] [5] (fun s_14 => [some (.im self_1), some (.im some_2), some (.im whole_3), some (.im rooms_4), some (.im s_14), none, none, none]) (by rfl) (src_it (ev_var (i := 1) rfl))
 (fun s_14 letter_15 st r q => ⟨_, tg_name (by decide), (blk_last (blk_set (i := 4) (ev_meth (c := "Strides") (ev_var (i := 0) rfl) (ea_cons (ev_var (i := 4) rfl) (ea_cons (ev_var (i := 5) rfl) ea_nil))) fun step_16 =>
 (blk_fin [5] (by rfl))))⟩)) fun s_14 =>
 (blk_ret (EvW.f (ev_var (i := 4) rfl)))))))⟩⟩

noncomputable def m_pairs_of_ranks (ranks_1 : U) : M U := fnM (.bind (lstW nilA) fun found_2 => (seqO (S := U) (.bind (itW (op1 sortDU (lcW (itW (.ret ranks_1)) (fun one_3 => (testW (op2 eqU (op2 modU (.ret one_3) (.ret (.int 2))) (.ret (.int 0))))) fun one_3 => (.ret one_3)))) fun us => forO (fun rank_6 s_5 => (.bind (op1 tupleU (lcW (enumW (.ret ranks_1)) (fun e_13 => un2 e_13 fun room_11 one_12 => (testW (op2 gtU (.ret one_12) (.ret rank_6)))) fun e_13 => un2 e_13 fun room_11 one_12 => (.ret room_11))) fun never_10 => (.bindS (.bind (.ret (s_5, id)) fun h => .bind (consA (tupW (consA (.ret never_10) (consA (op1 tupleU (lcW (enumW (.ret ranks_1)) (fun e_17 => un2 e_17 fun room_15 one_16 => (testW (op2 eqU (.ret one_16) (.ret rank_6)))) fun e_17 => un2 e_17 fun room_15 one_16 => (.ret room_15))) nilA))) nilA) fun xs => .o (mutL appL h xs)) fun found_14 => (nxO found_14)))) us found_2) fun s_5 => (rtO (op1 tupleU (.ret s_5)))))
theorem w_pairs_of_ranks {P : Program} {w : World} {K : PySem.W.Frag} {mg : Str → Option Value} {bs : Heap} (N : En w K mg) : FnOk P w K mg bs CX0 1 (He.ga K "pairs_of_ranks") N.fd_pairs_of_ranks ["ranks"] (spM ⟨K, He.ga K⟩ (L1 m_pairs_of_ranks)) :=
  fn_okF N.F_pairs_of_ranks sc_pairs_of_ranks (ar1 fun _ => rfl) fun cv A o s H E hr => ⟨_, PSs.nox (pss_cons (ps_set (i := 1) sc_pairs_of_ranks.nd rfl (.inl rfl) (pe_lst pa_nil))
 (pss_cons (ps_for PassesOwn.never rfl (pi_seqK K (pe_callB (cr_sortSK w (by rfl)) (by rfl) N.m_sorted (by decide +kernel) (pa_cons (pe_sci (own := [("one", 4)]) (by rfl) sc_pairs_of_ranks.nd (pi_seqK K (pv 0)) (blkOk_by (own := [("one", 4)]) (N := N_pairs_of_ranks) (sc := defScope s_pairs_of_ranks) (by decide +kernel)) (fun _ _ _ _ _ => (pg_name (i := 4) sc_pairs_of_ranks.nd rfl (.inl rfl))) (fun _ _ _ _ _ => (pts_one (pt_cmpR (op_eqK K hr.units) (pe_op op_modN (pv 4) pe_int) pe_int (nomark _)))) (fun _ _ _ _ _ => (pv 4))) pa_nil))) (pg_name (i := 2) sc_pairs_of_ranks.nd rfl (.inr rfl))
 (pss_cons (ps_set (i := 3) sc_pairs_of_ranks.nd rfl (.inl rfl) (pe_callTy (call_tupleK K) (by rfl) N.m_tuple (by decide +kernel) (pa_cons (pe_lc (own := [("room", 5), ("one", 4)]) (by rfl) sc_pairs_of_ranks.nd (pi_enAK K (by rfl) N.m_enumerate (pa_cons (pv 0) pa_nil)) (blkOk_by (own := [("room", 5), ("one", 4)]) (N := N_pairs_of_ranks) (sc := defScope s_pairs_of_ranks) (by decide +kernel)) (fun _ _ _ _ _ => (pg_tupK K (n := 2) rfl (pgs_cons (pg_name (i := 5) sc_pairs_of_ranks.nd rfl (.inl rfl)) (pgs_cons (pg_name (i := 4) sc_pairs_of_ranks.nd rfl (.inl rfl)) pgs_nil)))) (fun _ _ _ _ _ => (pts_one (pt_cmpR op_gt (pv 4) (pv 2) (nomark _)))) (fun _ _ _ _ _ => (pv 5))) pa_nil)))
 (pss_one (ps_expr (pe_bm PySem.F.plainAttrs_list PySem.F.slot_list_append PySem.F.type_list_append mt_append (pv 1) (pa_cons (pe_tup (pa_cons (pv 3) (pa_cons (pe_callTy (call_tupleK K) (by rfl) N.m_tuple (by decide +kernel) (pa_cons (pe_lc (own := [("room", 5), ("one", 4)]) (by rfl) sc_pairs_of_ranks.nd (pi_enAK K (by rfl) N.m_enumerate (pa_cons (pv 0) pa_nil)) (blkOk_by (own := [("room", 5), ("one", 4)]) (N := N_pairs_of_ranks) (sc := defScope s_pairs_of_ranks) (by decide +kernel)) (fun _ _ _ _ _ => (pg_tupK K (n := 2) rfl (pgs_cons (pg_name (i := 5) sc_pairs_of_ranks.nd rfl (.inl rfl)) (pgs_cons (pg_name (i := 4) sc_pairs_of_ranks.nd rfl (.inl rfl)) pgs_nil)))) (fun _ _ _ _ _ => (pts_one (pt_cmpR (op_eqK K hr.units) (pv 4) (pv 2) (nomark _)))) (fun _ _ _ _ _ => (pv 5))) pa_nil)) pa_nil))) pa_nil))))))
 (pss_one (ps_ret (pe_callTy (call_tupleK K) (by rfl) N.m_tuple (by decide +kernel) (pa_cons (pv 1) pa_nil)))))),
   fun B H0 as0 => ar1 fun ranks_1 => ⟨_, rfl,
 (blk_own (i := 1) (en_lst ea_nil) fun found_2 =>
 (blk_seq (blk_forL (S := U) [2, 3] [2] (fun s_5 => [some (.im ranks_1), some (.own (.lst .leaf) s_5), none, none, none, none]) (by rfl) (src_it (ev_sortSc (by rfl) (src_it (ev_var (i := 0) rfl)) fun one_3 st r q => ⟨_, tg_name (by decide), (et_test (EvW.r (ev_op ok_eq (EvW.r (ev_op ok_mod (EvW.r (ev_var (i := 4) rfl)) (EvW.r ev_int))) (EvW.r ev_int)))), (ev_var (i := 4) rfl)⟩))
 (fun s_5 rank_6 st r q => ⟨_, tg_name (by decide), (blk_set (i := 3) (ev_cb1 ok_tuple (EvW.r (EvN.ew (en_lc (by rfl) (src_enum (ev_var (i := 0) rfl)) (lcp2 (i := 5) (j := 4) (vs := [5, 4]) (by decide) (by decide) fun room_11 one_12 => ⟨(et_test (EvW.r (ev_op ok_gt (EvW.r (ev_var (i := 4) rfl)) (EvW.r (ev_var (i := 2) rfl))))), (ev_var (i := 5) rfl)⟩))))) fun never_10 =>
 (blk_last (blk_x2 (ex_mut mut_app (eh_slot (i := 1) rfl) (ea_cons (ev_tup (ea_cons (ev_var (i := 3) rfl) (ea_cons (ev_cb1 ok_tuple (EvW.r (EvN.ew (en_lc (by rfl) (src_enum (ev_var (i := 0) rfl)) (lcp2 (i := 5) (j := 4) (vs := [5, 4]) (by decide) (by decide) fun room_15 one_16 => ⟨(et_test (EvW.r (ev_op ok_eq (EvW.r (ev_var (i := 4) rfl)) (EvW.r (ev_var (i := 2) rfl))))), (ev_var (i := 5) rfl)⟩))))) ea_nil))) ea_nil)) fun found_14 =>
 (blk_fin [2, 3] (by rfl)))))⟩)) fun s_5 =>
 (blk_ret (EvW.f (ev_cb1 ok_tuple (ev_ownL (i := 1) rfl))))))⟩⟩

noncomputable def m_pairs_of (hall_1 : U) : M U := fnM (seqO (S := Unit) (iteW (testW (op2 eqU (op1 (fldU ["Hall"] "kind") (.ret hall_1)) (.ret (.str "pairs")))) (rtO (op1 (fldU ["Hall"] "by") (.ret hall_1))) (nxO ())) fun s_2 => (seqO (S := Unit) (iteW (testW (op2 eqU (op1 (fldU ["Hall"] "kind") (.ret hall_1)) (.ret (.str "ranks")))) (rtO (callM (L1 m_pairs_of_ranks) (consA (op1 (fldU ["Hall"] "by") (.ret hall_1)) nilA))) (nxO ())) fun s_3 => (seqO (S := Unit) (iteW (testW (op2 eqU (op1 (fldU ["Hall"] "kind") (.ret hall_1)) (.ret (.str "again")))) (rtO (tupW (consA (tupW (consA (tupW nilA) (consA (op1 (fldU ["Hall"] "by") (.ret hall_1)) nilA))) nilA))) (nxO ())) fun s_4 => (.bind (tupRW (rng1W (op1 (fldU ["Hall"] "rooms") (.ret hall_1)))) fun rooms_5 => (rtO (tupW (consA (tupW (consA (op1 tupleU (lcW (itW (.ret rooms_5)) (fun room_6 => (testW (op2 notInSU (.ret room_6) (op1 (fldU ["Hall"] "by") (.ret hall_1))))) fun room_6 => (.ret room_6))) (consA (.ret rooms_5) nilA))) nilA)))))))
theorem w_pairs_of {P : Program} {w : World} {K : PySem.W.Frag} {mg : Str → Option Value} {bs : Heap} (N : En w K mg) : FnOk P w K mg bs CX0 2 (He.ga K "pairs_of") N.fd_pairs_of ["hall"] (spM ⟨K, He.ga K⟩ (L1 m_pairs_of)) :=
  fn_okF N.F_pairs_of sc_pairs_of (ar1 fun _ => rfl) fun cv A o s H E hr => ⟨_, PSs.nox (pss_cons (ps_if (pt_cmpR (op_eqK K hr.units) (pe_fldK K (pv 0) rfl) pe_str (nomark _))
 (pss_one (ps_ret (pe_fldK K (pv 0) rfl)))
 pss_nil)
 (pss_cons (ps_if (pt_cmpR (op_eqK K hr.units) (pe_fldK K (pv 0) rfl) pe_str (nomark _))
 (pss_one (ps_ret (pe_call (w_pairs_of_ranks N) (hr.mono (by decide)) (by rfl) N.g_pairs_of_ranks N.F_pairs_of_ranks.kp N.b_pairs_of_ranks .nil pass0 (pa_cons (pe_fldK K (pv 0) rfl) pa_nil))))
 pss_nil)
 (pss_cons (ps_if (pt_cmpR (op_eqK K hr.units) (pe_fldK K (pv 0) rfl) pe_str (nomark _))
 (pss_one (ps_ret (pe_tup (pa_cons (pe_tup (pa_cons (pe_tup pa_nil) (pa_cons (pe_fldK K (pv 0) rfl) pa_nil))) pa_nil))))
 pss_nil)
 (pss_cons (ps_set (i := 1) sc_pairs_of.nd rfl (.inl rfl) (pe_tupRg (by rfl) (by rfl) N.m_tuple (prg_1 (by rfl) N.m_range (pe_fldK K (pv 0) rfl))))
 (pss_one (ps_ret (pe_tup (pa_cons (pe_tup (pa_cons (pe_callTy (call_tupleK K) (by rfl) N.m_tuple (by decide +kernel) (pa_cons (pe_lc (own := [("room", 2)]) (by rfl) sc_pairs_of.nd (pi_seqK K (pv 1)) (blkOk_by (own := [("room", 2)]) (N := N_pairs_of) (sc := defScope s_pairs_of) (by decide +kernel)) (fun _ _ _ _ _ => (pg_name (i := 2) sc_pairs_of.nd rfl (.inl rfl))) (fun _ _ _ _ _ => (pts_one (pt_cmpR (op_notInAK K (rm66 hr)) (pv 2) (pe_fldK K (pv 0) rfl) (by rfl)))) (fun _ _ _ _ _ => (pv 2))) pa_nil)) (pa_cons (pv 1) pa_nil))) pa_nil)))))))),
   fun B H0 as0 => ar1 fun hall_1 => ⟨_, rfl,
 (blk_seq (blk_ifL (S := Unit) (fun s_2 => [some (.im hall_1), none, none]) (et_test (EvW.r (ev_op ok_eq (EvW.r (ev_fld N.hf_kind (EvW.r (ev_var (i := 0) rfl)))) (EvW.r ev_str))))
 (blk_ret (EvW.f (ev_fld N.hf_by (EvW.r (ev_var (i := 0) rfl)))))
 (blk_fin [] (by rfl))) fun s_2 =>
 (blk_seq (blk_ifL (S := Unit) (fun s_3 => [some (.im hall_1), none, none]) (et_test (EvW.r (ev_op ok_eq (EvW.r (ev_fld N.hf_kind (EvW.r (ev_var (i := 0) rfl)))) (EvW.r ev_str))))
 (blk_ret (EvW.f (ev_call (ea_cons (ev_fld N.hf_by (EvW.r (ev_var (i := 0) rfl))) ea_nil))))
 (blk_fin [] (by rfl))) fun s_3 =>
 (blk_seq (blk_ifL (S := Unit) (fun s_4 => [some (.im hall_1), none, none]) (et_test (EvW.r (ev_op ok_eq (EvW.r (ev_fld N.hf_kind (EvW.r (ev_var (i := 0) rfl)))) (EvW.r ev_str))))
 (blk_ret (ef_tup (eaf_cons (ef_tup (eaf_cons (ef_tup eaf_nil) (eaf_cons (EvW.f (ev_fld N.hf_by (EvW.r (ev_var (i := 0) rfl)))) eaf_nil))) eaf_nil)))
 (blk_fin [] (by rfl))) fun s_4 =>
 (blk_set (i := 1) (ev_tupRg (eg_1 (EvW.r (ev_fld N.hf_rooms (EvW.r (ev_var (i := 0) rfl)))))) fun rooms_5 =>
 (blk_ret (ef_tup (eaf_cons (ef_tup (eaf_cons (EvW.f (ev_cb1 ok_tuple (EvW.r (EvN.ew (en_lc (by rfl) (src_it (ev_var (i := 1) rfl)) fun room_6 st r q => ⟨_, tg_name (by decide), (et_test (EvW.r (ev_op ok_notIn (EvW.r (ev_var (i := 2) rfl)) (EvW.r (ev_fld N.hf_by (EvW.r (ev_var (i := 0) rfl))))))), (ev_var (i := 2) rfl)⟩))))) (eaf_cons (EvW.f (ev_var (i := 1) rfl)) eaf_nil))) eaf_nil)))))))⟩⟩

noncomputable def m_Strides___init__ (self_1 hall_2 : U) : M U := fnM (.bind (.bind (.ret hall_2) fun u => .o (leafO u)) fun x => .bind (locM self_1) fun c => .bind (.o (newF ["Strides"] "walked" c x)) fun u => .bind (putC c.1 u) fun _ => (.bind (.bind (op2 mulLU (lstW (consA (.ret (.int 1)) nilA)) (op1 (fldU ["Hall"] "rooms") (.ret hall_2))) fun u => .o (flatO u)) fun x => .bind (locM self_1) fun c => .bind (.o (newF ["Strides"] "staying" c x)) fun u => .bind (putC c.1 u) fun _ => (.bind (.bind (op2 mulLU (lstW (consA (.ret (.int 0)) nilA)) (op1 (fldU ["Hall"] "rooms") (.ret hall_2))) fun u => .o (flatO u)) fun x => .bind (locM self_1) fun c => .bind (.o (newF ["Strides"] "rising" c x)) fun u => .bind (putC c.1 u) fun _ => (.bind (lstW nilA) fun x => .bind (locM self_1) fun c => .bind (.o (newF ["Strides"] "marks" c x)) fun u => .bind (putC c.1 u) fun _ => (seqO (S := Unit) (.bind (itW (callM (L1 m_pairs_of) (consA (.ret hall_2) nilA))) fun us => forO (fun e_13 s_3 => un2 e_13 fun never_4 often_5 => (.bind (iteW (testW (.bind (.bind (.bind (.ret self_1) locM) fun c => .o (fldC ["Strides"] "marks" c)) fun c => .o (eqU c.2.1 (.lst [])))) (.ret (.int 2)) (op2 mulU (.ret (.int 4)) (.bind (.bind (.bind (.bind (.ret self_1) locM) fun c => .o (fldC ["Strides"] "marks" c)) fun c => .bind (op1 negU (.ret (.int 1))) fun n => .o (ixC c n)) fun c => .o (valC c)))) fun mark_6 => (.bind (.bind (.bind (.ret self_1) locM) fun c => .o (fldC ["Strides"] "marks" c)) fun c => .bind (.ret mark_6) fun n => .bind (.o (mutC appL c [n])) fun d => .bind (putC d.2.1 d.2.2.1) fun _ => (seqO (S := Unit) (.bind (rng1W (op1 (fldU ["Hall"] "rooms") (.ret hall_2))) fun us => forO (fun room_8 s_7 => (iteW (testW (op2 notInSU (.ret room_8) (.ret never_4))) (.bind (.bind (.bind (.ret self_1) locM) fun c => .o (fldC ["Strides"] "staying" c)) fun c => .bind (.ret room_8) fun n => .bind (.o (getItC c n)) fun x => .bind (op2 mulIU (.ret (.int 3)) (.ret mark_6)) fun y => .bind (.o (addIU x y)) fun z => .bind (.o (setItC c n z)) fun d => .bind (putC d.1 d.2.1) fun _ => (nxO ())) (nxO ()))) us ()) fun s_7 => (seqO (S := Unit) (.bind (itW (.ret often_5)) fun us => forO (fun room_10 s_9 => (iteW (testW (op2 notInSU (.ret room_10) (.ret never_4))) (.bind (.bind (.bind (.ret self_1) locM) fun c => .o (fldC ["Strides"] "rising" c)) fun c => .bind (.ret room_10) fun n => .bind (.o (getItC c n)) fun x => .bind (.ret mark_6) fun y => .bind (.o (addIU x y)) fun z => .bind (.o (setItC c n z)) fun d => .bind (putC d.1 d.2.1) fun _ => (nxO ())) (nxO ()))) us ()) fun s_9 => (nxO ())))))) us ()) fun s_3 => (nxO ()))))))
theorem w_Strides___init__ {P : Program} {w : World} {K : PySem.W.Frag} {mg : Str → Option Value} {bs : Heap} (N : En w K mg) : FnOk P w K mg bs CX0 3 (He.ma K (He.ga K "Strides") "__init__") N.fd_Strides___init__ ["self", "hall"] (spM ⟨K, He.ga K⟩ (L2' m_Strides___init__)) :=
  fn_okF N.F_Strides___init__ sc_Strides___init__ (ar2 fun _ _ => rfl) fun cv A o s H E hr => ⟨_, PSs.nox (pss_cons (ps_fld (pv 0) (pv 1) rfl)
 (pss_cons (ps_fld (pv 0) (pe_op (op_mulK K) (pe_lst (pa_cons pe_int pa_nil)) (pe_fldK K (pv 1) rfl)) rfl)
 (pss_cons (ps_fld (pv 0) (pe_op (op_mulK K) (pe_lst (pa_cons pe_int pa_nil)) (pe_fldK K (pv 1) rfl)) rfl)
 (pss_cons (ps_fld (pv 0) (pe_lst pa_nil) rfl)
 (pss_one (ps_for PassesOwn.never rfl (pi_seqK K (pe_call (w_pairs_of N) (hr.mono (by decide)) (by rfl) N.g_pairs_of N.F_pairs_of.kp N.b_pairs_of .nil pass0 (pa_cons (pv 1) pa_nil))) (pg_tup rfl (pgs_cons (pg_name (i := 2) sc_Strides___init__.nd rfl (.inl rfl)) (pgs_cons (pg_name (i := 3) sc_Strides___init__.nd rfl (.inl rfl)) pgs_nil)))
 (pss_cons (ps_set (i := 4) sc_Strides___init__.nd rfl (.inl rfl) (pe_ifExp (pt_cmpR (op_eqK K hr.units) (pe_fldK K (pv 0) rfl) (pe_lst pa_nil) (nomark _)) pe_int (pe_op (op_mulK K) pe_int (pe_ix (ix_seqK K) (pe_fldK K (pv 0) rfl) (pe_un un_neg pe_int) (fun _ _ => rfl)))))
 (pss_cons (ps_expr (pe_bm PySem.F.plainAttrs_list PySem.F.slot_list_append PySem.F.type_list_append mt_append (pe_fldK K (pv 0) rfl) (pa_cons (pv 4) pa_nil)))
 (pss_cons (ps_for PassesOwn.never rfl (pi_range1 (by rfl) N.m_range (pa_cons (pe_fldK K (pv 1) rfl) pa_nil)) (pg_name (i := 5) sc_Strides___init__.nd rfl (.inl rfl))
 (pss_one (ps_if (pt_cmpR (op_notInAK K (rm66 hr)) (pv 5) (pv 2) (by rfl))
 (pss_one (ps_augS (pe_fldK K (pv 0) rfl) (pv 5) (get_list K) (pe_op (op_mulK K) pe_int (pv 4)) ip_add set_list))
 pss_nil)))
 (pss_one (ps_for PassesOwn.never rfl (pi_seqK K (pv 3)) (pg_name (i := 5) sc_Strides___init__.nd rfl (.inl rfl))
 (pss_one (ps_if (pt_cmpR (op_notInAK K (rm66 hr)) (pv 5) (pv 2) (by rfl))
 (pss_one (ps_augS (pe_fldK K (pv 0) rfl) (pv 5) (get_list K) (pv 4) ip_add set_list))
 pss_nil))))))))))))),
   fun B H0 as0 => ar2 fun self_1 hall_2 => ⟨_, rfl,
 (blk_fldC N.hf_walked (enf_leaf (ev_var (i := 1) rfl)) (j := 0) rfl
 (blk_fldC N.hf_staying (enf_flat (en_mulL (EvW.r (EvN.ew (en_lst (ea_cons ev_int ea_nil)))) (EvW.r (ev_fld N.hf_rooms (EvW.r (ev_var (i := 1) rfl)))))) (j := 0) rfl
 (blk_fldC N.hf_rising (enf_flat (en_mulL (EvW.r (EvN.ew (en_lst (ea_cons ev_int ea_nil)))) (EvW.r (ev_fld N.hf_rooms (EvW.r (ev_var (i := 1) rfl)))))) (j := 0) rfl
 (blk_fldC N.hf_marks (enf_lst eanf_nil) (j := 0) rfl
 (blk_last (blk_seq (blk_forL (S := Unit) [2, 3, 4, 5] [2, 3] (fun s_3 => [some (.im self_1), some (.im hall_2), none, none, none, none]) (by rfl) (src_it (ev_call (ea_cons (ev_var (i := 1) rfl) ea_nil)))
 (fun s_3 => pat2 (P := fun δ w => Blk _ _ δ w _ _) (by decide) (by decide) fun never_4 often_5 => (blk_set (i := 4) (ev_if (et_test (EvW.r (ev_eqC (ec_fld N.hf_marks (ec_loc (ev_var (i := 0) rfl)))))) ev_int (ev_op ok_mul (EvW.r ev_int) (EvW.r (ev_cell (r := false) (ec_ix (ec_fld N.hf_marks (ec_loc (ev_var (i := 0) rfl))) (eq_neg eq_int)))))) fun mark_6 =>
 (blk_mutC mut_app (ec_fld N.hf_marks (ec_loc (ev_var (i := 0) rfl))) (eq_var (i := 4) rfl)
 (blk_seq (blk_forL (S := Unit) [5] [5] (fun s_7 => [some (.im self_1), some (.im hall_2), some (.im never_4), some (.im often_5), some (.im mark_6), none]) (by rfl) (src_range1 (EvW.r (ev_fld N.hf_rooms (EvW.r (ev_var (i := 1) rfl)))))
 (fun s_7 room_8 st r q => ⟨_, tg_name (by decide), (blk_if (et_test (EvW.r (ev_op ok_notIn (EvW.r (ev_var (i := 5) rfl)) (EvW.r (ev_var (i := 2) rfl)))))
 (blk_last (blk_augC ip_okAdd (ec_fld N.hf_staying (ec_loc (ev_var (i := 0) rfl))) (eq_var (i := 5) rfl) (eq_mulI eq_int (eq_var (i := 4) rfl))
 (blk_fin [5] (by rfl))))
 (blk_fin [5] (by rfl)))⟩)) fun s_7 =>
 (blk_last (blk_seq (blk_forL (S := Unit) [5] [5] (fun s_9 => [some (.im self_1), some (.im hall_2), some (.im never_4), some (.im often_5), some (.im mark_6), none]) (by rfl) (src_it (ev_var (i := 3) rfl))
 (fun s_9 room_10 st r q => ⟨_, tg_name (by decide), (blk_if (et_test (EvW.r (ev_op ok_notIn (EvW.r (ev_var (i := 5) rfl)) (EvW.r (ev_var (i := 2) rfl)))))
 (blk_last (blk_augC ip_okAdd (ec_fld N.hf_rising (ec_loc (ev_var (i := 0) rfl))) (eq_var (i := 5) rfl) (eq_var (i := 4) rfl)
 (blk_fin [5] (by rfl))))
 (blk_fin [5] (by rfl)))⟩)) fun s_9 =>
 (blk_fin [2, 3, 4, 5] (by rfl))))))))) fun s_3 =>
 (blk_fin [0, 1, 2, 3, 4, 5] (by rfl))))))))⟩⟩

noncomputable def m_step_of (hall_1 some_2 : U) : M U := fnM (rtO (methM "Strides" "along" (L2' m_Strides_along) (mkM "Strides" (L2' m_Strides___init__) (consA (.ret hall_1) nilA)) (consA (.ret some_2) nilA)))
theorem w_step_of {P : Program} {w : World} {K : PySem.W.Frag} {mg : Str → Option Value} {bs : Heap} (N : En w K mg) : FnOk P w K mg bs CX0 5 (He.ga K "step_of") N.fd_step_of ["hall", "some"] (spM ⟨K, He.ga K⟩ (L2' m_step_of)) :=
  fn_okF N.F_step_of sc_step_of (ar2 fun _ _ => rfl) fun cv A o s H E hr => ⟨_, PSs.nox (pss_one (ps_ret (pe_meth (pe_make N.mk_Strides (w_Strides___init__ N) (hr.mono (by decide)) (by rfl) N.g_Strides N.b_Strides___init__ .nil pass0 (pa_cons (pv 0) pa_nil)) N.cl_Strides N.me_Strides_along (w_Strides_along N) (hr.mono (by decide)) N.b_Strides_along .nil pass0 (pa_cons (pv 1) pa_nil)))),
   fun B H0 as0 => ar2 fun hall_1 some_2 => ⟨_, rfl,
 (blk_ret (EvW.f (ev_meth (c := "Strides") (ev_make (c := "Strides") (ea_cons (ev_var (i := 0) rfl) ea_nil)) (ea_cons (ev_var (i := 1) rfl) ea_nil))))⟩⟩

noncomputable def m_step_on (hall_1 step_2 letter_3 : U) : M U := fnM (rtO (methM "Strides" "onward" (L3 m_Strides_onward) (mkM "Strides" (L2' m_Strides___init__) (consA (.ret hall_1) nilA)) (consA (.ret step_2) (consA (.ret letter_3) nilA))))
theorem w_step_on {P : Program} {w : World} {K : PySem.W.Frag} {mg : Str → Option Value} {bs : Heap} (N : En w K mg) : FnOk P w K mg bs CX0 5 (He.ga K "step_on") N.fd_step_on ["hall", "step", "letter"] (spM ⟨K, He.ga K⟩ (L3 m_step_on)) :=
  fn_okF N.F_step_on sc_step_on (ar3 fun _ _ _ => rfl) fun cv A o s H E hr => ⟨_, PSs.nox (pss_one (ps_ret (pe_meth (pe_make N.mk_Strides (w_Strides___init__ N) (hr.mono (by decide)) (by rfl) N.g_Strides N.b_Strides___init__ .nil pass0 (pa_cons (pv 0) pa_nil)) N.cl_Strides N.me_Strides_onward (w_Strides_onward N) (hr.mono (by decide)) N.b_Strides_onward .nil pass0 (pa_cons (pv 1) (pa_cons (pv 2) pa_nil))))),
   fun B H0 as0 => ar3 fun hall_1 step_2 letter_3 => ⟨_, rfl,
 (blk_ret (EvW.f (ev_meth (c := "Strides") (ev_make (c := "Strides") (ea_cons (ev_var (i := 0) rfl) ea_nil)) (ea_cons (ev_var (i := 1) rfl) (ea_cons (ev_var (i := 2) rfl) ea_nil)))))⟩⟩

noncomputable def m__law_pairs (parts_here_1 : U) : M U := fnM (.bind (lstRW (rng1W (op2 ixU (.ret parts_here_1) (.ret (.int 1))))) fun every_2 => (.bind (op2 ixU (.ret parts_here_1) (.ret (.int 5))) fun marked_3 => (seqO (S := Unit) (iteW (testW (op2 eqU (op2 ixU (.ret parts_here_1) (.ret (.int 4))) (.ret (.str "again")))) (rtO (lstW (consA (tupW (consA (lstW nilA) (consA (.ret marked_3) nilA))) nilA))) (nxO ())) fun s_4 => (seqO (S := Unit) (iteW (testW (op2 eqU (op2 ixU (.ret parts_here_1) (.ret (.int 4))) (.ret (.str "at last")))) (rtO (lstW (consA (tupW (consA (lcW (itW (.ret every_2)) (fun room_6 => (testW (op2 notInSU (.ret room_6) (.ret marked_3)))) fun room_6 => (.ret room_6)) (consA (.ret every_2) nilA))) nilA))) (nxO ())) fun s_5 => (seqO (S := Unit) (iteW (testW (op2 eqU (op2 ixU (.ret parts_here_1) (.ret (.int 4))) (.ret (.str "pairs")))) (rtO (op1 listU (.ret marked_3))) (nxO ())) fun s_8 => (.bind (lstW nilA) fun found_9 => (seqO (S := U) (.bind (itW (op1 sortSIU (lcW (itW (.ret marked_3)) (fun one_10 => (testW (op2 eqU (op2 modU (.ret one_10) (.ret (.int 2))) (.ret (.int 0))))) fun one_10 => (.ret one_10)))) fun us => forO (fun rank_13 s_12 => (.bind (lcW (itW (.ret every_2)) (fun room_17 => (testW (op2 gtU (op2 ixU (.ret marked_3) (.ret room_17)) (.ret rank_13)))) fun room_17 => (.ret room_17)) fun above_16 => (.bindS (.bind (.ret (s_12, id)) fun h => .bind (consA (tupW (consA (.ret above_16) (consA (lcW (itW (.ret every_2)) (fun room_20 => (testW (op2 eqU (op2 ixU (.ret marked_3) (.ret room_20)) (.ret rank_13)))) fun room_20 => (.ret room_20)) nilA))) nilA) fun xs => .o (mutL appL h xs)) fun found_19 => (nxO found_19)))) us found_9) fun s_12 => (rtO (.ret s_12)))))))))
theorem w__law_pairs {P : Program} {w : World} {K : PySem.W.Frag} {mg : Str → Option Value} {bs : Heap} (N : En w K mg) : FnOk P w K mg bs CX0 1 (He.ga K "_law_pairs") N.fd__law_pairs ["_law_parts_here"] (spM ⟨K, He.ga K⟩ (L1 m__law_pairs)) :=
  fn_okF N.F__law_pairs sc__law_pairs (ar1 fun _ => rfl) fun cv A o s H E hr => ⟨_, PSs.nox (pss_cons (ps_asg (pe_tup (pa_cons (pe_listRg (by rfl) (by rfl) N.m_list (prg_1 (by rfl) N.m_range (pe_ix (ix_seqK K) (pv 0) pe_int (fun _ _ => rfl)))) (pa_cons (pe_ix (ix_seqK K) (pv 0) pe_int (fun _ _ => rfl)) pa_nil))) (pg_tup rfl (pgs_cons (pg_name (i := 1) sc__law_pairs.nd rfl (.inl rfl)) (pgs_cons (pg_name (i := 2) sc__law_pairs.nd rfl (.inr rfl)) pgs_nil))))
 (pss_cons (ps_if (pt_cmpR (op_eqK K hr.units) (pe_ix (ix_seqK K) (pv 0) pe_int (fun _ _ => rfl)) pe_str (nomark _))
 (pss_one (ps_ret (pe_lst (pa_cons (pe_tup (pa_cons (pe_lst pa_nil) (pa_cons (pv 2) pa_nil))) pa_nil))))
 pss_nil)
 (pss_cons (ps_if (pt_cmpR (op_eqK K hr.units) (pe_ix (ix_seqK K) (pv 0) pe_int (fun _ _ => rfl)) pe_str (nomark _))
 (pss_one (ps_ret (pe_lst (pa_cons (pe_tup (pa_cons (pe_lc (own := [("_law_room", 6)]) (by rfl) sc__law_pairs.nd (pi_seqK K (pv 1)) (blkOk_by (own := [("_law_room", 6)]) (N := N__law_pairs) (sc := defScope s__law_pairs) (by decide +kernel)) (fun _ _ _ _ _ => (pg_name (i := 6) sc__law_pairs.nd rfl (.inl rfl))) (fun _ _ _ _ _ => (pts_one (pt_cmpR (op_notInAK K (rm66 hr)) (pv 6) (pv 2) (by rfl)))) (fun _ _ _ _ _ => (pv 6))) (pa_cons (pv 1) pa_nil))) pa_nil))))
 pss_nil)
 (pss_cons (ps_if (pt_cmpR (op_eqK K hr.units) (pe_ix (ix_seqK K) (pv 0) pe_int (fun _ _ => rfl)) pe_str (nomark _))
 (pss_one (ps_ret (pe_callTy (call_listK K) (by rfl) N.m_list (by decide +kernel) (pa_cons (pv 2) pa_nil))))
 pss_nil)
 (pss_cons (ps_set (i := 3) sc__law_pairs.nd rfl (.inl rfl) (pe_lst pa_nil))
 (pss_cons (ps_for PassesOwn.never rfl (pi_seqK K (pe_callB (cr_sortSK w (by rfl)) (by rfl) N.m_sorted (by decide +kernel) (pa_cons (pe_callTy (cr_setIK K w (by rfl)) (by rfl) N.m_set (by decide +kernel) (pa_cons (pe_lc (own := [("_law_one", 7)]) (by rfl) sc__law_pairs.nd (pi_seqK K (pv 2)) (blkOk_by (own := [("_law_one", 7)]) (N := N__law_pairs) (sc := defScope s__law_pairs) (by decide +kernel)) (fun _ _ _ _ _ => (pg_name (i := 7) sc__law_pairs.nd rfl (.inl rfl))) (fun _ _ _ _ _ => (pts_one (pt_cmpR (op_eqK K hr.units) (pe_op op_modN (pv 7) pe_int) pe_int (nomark _)))) (fun _ _ _ _ _ => (pv 7))) pa_nil)) pa_nil))) (pg_name (i := 4) sc__law_pairs.nd rfl (.inr rfl))
 (pss_cons (ps_setLc (i := 5) (own := [("_law_room", 6)]) (by rfl) sc__law_pairs.nd rfl rfl (sw_true rfl rfl rfl (by decide +kernel)) (pi_seqK K (pv 1)) (blkOk_by (own := [("_law_room", 6)]) (N := N__law_pairs) (sc := defScope s__law_pairs) (by decide +kernel)) (fun _ _ _ _ _ => (pg_name (i := 6) sc__law_pairs.nd rfl (.inl rfl))) (fun _ _ _ _ _ => (pts_one (pt_cmpR op_gt (pe_ix (ix_seqK K) (pv 2) (pv 6) (fun _ _ => rfl)) (pv 4) (nomark _)))) (fun _ _ _ _ _ => (pv 6)))
 (pss_one (ps_expr (pe_bm PySem.F.plainAttrs_list PySem.F.slot_list_append PySem.F.type_list_append mt_append (pv 3) (pa_cons (pe_tup (pa_cons (pv 5) (pa_cons (pe_lc (own := [("_law_room", 6)]) (by rfl) sc__law_pairs.nd (pi_seqK K (pv 1)) (blkOk_by (own := [("_law_room", 6)]) (N := N__law_pairs) (sc := defScope s__law_pairs) (by decide +kernel)) (fun _ _ _ _ _ => (pg_name (i := 6) sc__law_pairs.nd rfl (.inl rfl))) (fun _ _ _ _ _ => (pts_one (pt_cmpR (op_eqK K hr.units) (pe_ix (ix_seqK K) (pv 2) (pv 6) (fun _ _ => rfl)) (pv 4) (nomark _)))) (fun _ _ _ _ _ => (pv 6))) pa_nil))) pa_nil))))))
 (pss_one (ps_ret (pv 3))))))))),
   fun B H0 as0 => ar1 fun parts_here_1 => ⟨_, rfl,
 (blk_tup_WW (i0 := 1) (i1 := 2) (ev_lstRg (eg_1 (EvW.r (ev_op ok_ix (EvW.r (ev_var (i := 0) rfl)) (EvW.r ev_int))))) (ev_op ok_ix (EvW.r (ev_var (i := 0) rfl)) (EvW.r ev_int)) fun every_2 marked_3 =>
 (blk_seq (blk_ifL (S := Unit) (fun s_4 => [some (.im parts_here_1), some (.im every_2), some (.im marked_3), none, none, none, none, none]) (et_test (EvW.r (ev_op ok_eq (EvW.r (ev_op ok_ix (EvW.r (ev_var (i := 0) rfl)) (EvW.r ev_int))) (EvW.r ev_str))))
 (blk_ret (EvW.f (EvN.ew (en_lst (ea_cons (ev_tup (ea_cons (EvN.ew (en_lst ea_nil)) (ea_cons (ev_var (i := 2) rfl) ea_nil))) ea_nil)))))
 (blk_fin [] (by rfl))) fun s_4 =>
 (blk_seq (blk_ifL (S := Unit) (fun s_5 => [some (.im parts_here_1), some (.im every_2), some (.im marked_3), none, none, none, none, none]) (et_test (EvW.r (ev_op ok_eq (EvW.r (ev_op ok_ix (EvW.r (ev_var (i := 0) rfl)) (EvW.r ev_int))) (EvW.r ev_str))))
 (blk_ret (EvW.f (EvN.ew (en_lst (ea_cons (ev_tup (ea_cons (EvN.ew (en_lc (by rfl) (src_it (ev_var (i := 1) rfl)) fun room_6 st r q => ⟨_, tg_name (by decide), (et_test (EvW.r (ev_op ok_notIn (EvW.r (ev_var (i := 6) rfl)) (EvW.r (ev_var (i := 2) rfl))))), (ev_var (i := 6) rfl)⟩)) (ea_cons (ev_var (i := 1) rfl) ea_nil))) ea_nil)))))
 (blk_fin [] (by rfl))) fun s_5 =>
 (blk_seq (blk_ifL (S := Unit) (fun s_8 => [some (.im parts_here_1), some (.im every_2), some (.im marked_3), none, none, none, none, none]) (et_test (EvW.r (ev_op ok_eq (EvW.r (ev_op ok_ix (EvW.r (ev_var (i := 0) rfl)) (EvW.r ev_int))) (EvW.r ev_str))))
 (blk_ret (EvW.f (ev_cb1 ok_list (EvW.r (ev_var (i := 2) rfl)))))
 (blk_fin [] (by rfl))) fun s_8 =>
 (blk_own (i := 3) (en_lst ea_nil) fun found_9 =>
 (blk_seq (blk_forL (S := U) [4, 5] [4] (fun s_12 => [some (.im parts_here_1), some (.im every_2), some (.im marked_3), some (.own (.lst .leaf) s_12), none, none, none, none]) (by rfl) (src_it (ev_sortSI (EvW.r (EvN.ew (en_lc (by rfl) (src_it (ev_var (i := 2) rfl)) fun one_10 st r q => ⟨_, tg_name (by decide), (et_test (EvW.r (ev_op ok_eq (EvW.r (ev_op ok_mod (EvW.r (ev_var (i := 7) rfl)) (EvW.r ev_int))) (EvW.r ev_int)))), (ev_var (i := 7) rfl)⟩)))))
 (fun s_12 rank_13 st r q => ⟨_, tg_name (by decide), (blk_set (i := 5) (EvN.ew (en_lc (by rfl) (src_it (ev_var (i := 1) rfl)) fun room_17 st r q => ⟨_, tg_name (by decide), (et_test (EvW.r (ev_op ok_gt (EvW.r (ev_op ok_ix (EvW.r (ev_var (i := 2) rfl)) (EvW.r (ev_var (i := 6) rfl)))) (EvW.r (ev_var (i := 4) rfl))))), (ev_var (i := 6) rfl)⟩)) fun above_16 =>
 (blk_last (blk_x2 (ex_mut mut_app (eh_slot (i := 3) rfl) (ea_cons (ev_tup (ea_cons (ev_var (i := 5) rfl) (ea_cons (EvN.ew (en_lc (by rfl) (src_it (ev_var (i := 1) rfl)) fun room_20 st r q => ⟨_, tg_name (by decide), (et_test (EvW.r (ev_op ok_eq (EvW.r (ev_op ok_ix (EvW.r (ev_var (i := 2) rfl)) (EvW.r (ev_var (i := 6) rfl)))) (EvW.r (ev_var (i := 4) rfl))))), (ev_var (i := 6) rfl)⟩)) ea_nil))) ea_nil)) fun found_19 =>
 (blk_fin [4, 5] (by rfl)))))⟩)) fun s_12 =>
 (blk_ret (ef_own (i := 3) rfl))))))))⟩⟩

noncomputable def m__law_bits (ways_1 room_2 many_3 : U) : M U := fnM (.bind (lcW (keysNW (.ret ways_1)) (fun e_10 => un2 e_10 fun end_8 signs_9 => (testW (op2 eqU (.ret end_8) (.ret room_2)))) fun e_10 => un2 e_10 fun end_8 signs_9 => (.ret signs_9)) fun here_7 => (seqO (S := Unit) (iteW (testW (op2 eqU (.ret here_7) (lstW nilA))) (rtO (.ret (.int 0))) (nxO ())) fun s_11 => (.bind (.ret (.int 1)) fun bits_here_12 => (.bind (.ret (.int 2)) fun worth_13 => (seqO (S := U × U) (.bind (rng1W (.ret many_3)) fun us => forO (fun k_15 s_14 => (.bind (op2 addU (.ret s_14.1) (op2 mulU (.ret s_14.2) (op1 int1U (op1 anyU (lcW (itW (.ret here_7)) (fun signs_19 => (.ret true)) fun signs_19 => (op2 ixU (op2 ixU (.ret signs_19) (.ret k_15)) (.ret (.int 0)))))))) fun bits_here_18 => (.bind (op2 addU (.ret bits_here_18) (op2 mulU (op2 mulU (.ret (.int 2)) (.ret s_14.2)) (op1 int1U (op1 anyU (lcW (itW (.ret here_7)) (fun signs_24 => (.ret true)) fun signs_24 => (andW (op2 ixU (op2 ixU (.ret signs_24) (.ret k_15)) (.ret (.int 0))) (op2 ixU (op2 ixU (.ret signs_24) (.ret k_15)) (.ret (.int 1))))))))) fun bits_here_23 => (.bind (op2 mulU (.ret (.int 4)) (.ret s_14.2)) fun worth_26 => (nxO (bits_here_23, worth_26)))))) us (bits_here_12, worth_13)) fun s_14 => (rtO (.ret s_14.1)))))))
theorem w__law_bits {P : Program} {w : World} {K : PySem.W.Frag} {mg : Str → Option Value} {bs : Heap} (N : En w K mg) : FnOk P w K mg bs CX0 1 (He.ga K "_law_bits") N.fd__law_bits ["_law_ways", "_law_room", "_law_many"] (spM ⟨K, He.ga K⟩ (L3 m__law_bits)) :=
  fn_okF N.F__law_bits sc__law_bits (ar3 fun _ _ _ => rfl) fun cv A o s H E hr => ⟨_, PSs.nox (pss_cons (ps_lockS (ps_setLc (i := 3) (own := [("_law_end", 7), ("_law_signs", 8)]) (by rfl) sc__law_bits.nd rfl rfl (sw_true rfl rfl rfl (by decide +kernel)) (pi_keysN (pv 0)) (blkOk_by (own := [("_law_end", 7), ("_law_signs", 8)]) (N := N__law_bits) (sc := defScope s__law_bits) (by decide +kernel)) (fun _ _ _ _ _ => (pg_tupK K (n := 2) rfl (pgs_cons (pg_name (i := 7) sc__law_bits.nd rfl (.inl rfl)) (pgs_cons (pg_name (i := 8) sc__law_bits.nd rfl (.inl rfl)) pgs_nil)))) (fun _ _ _ _ _ => (pts_one (pt_cmpR (op_eqK K hr.units) (pv 7) (pv 1) (nomark _)))) (fun _ _ _ _ _ => (pv 8))))
 (pss_cons (ps_if (pt_cmpR (op_eqK K hr.units) (pv 3) (pe_lst pa_nil) (nomark _))
 (pss_one (ps_ret pe_int))
 pss_nil)
 (pss_cons (ps_asg (pe_tup (pa_cons pe_int (pa_cons pe_int pa_nil))) (pg_tup rfl (pgs_cons (pg_name (i := 4) sc__law_bits.nd rfl (.inl rfl)) (pgs_cons (pg_name (i := 5) sc__law_bits.nd rfl (.inl rfl)) pgs_nil))))
 (pss_cons (ps_for PassesOwn.never rfl (pi_range1 (by rfl) N.m_range (pa_cons (pv 2) pa_nil)) (pg_name (i := 6) sc__law_bits.nd rfl (.inr rfl))
 (pss_cons (ps_set (i := 4) sc__law_bits.nd rfl (.inl rfl) (pe_op (op_addK K) (pv 4) (pe_op (op_mulK K) (pv 5) (pe_callTy call_int1 (by rfl) N.m_int (by decide +kernel) (pa_cons (pe_callB (cr_anyK K rfl) (by rfl) N.m_any (by decide +kernel) (pa_cons (pe_lc (own := [("_law_signs", 8)]) (by rfl) sc__law_bits.nd (pi_seqK K (pv 3)) (blkOk_by (own := [("_law_signs", 8)]) (N := N__law_bits) (sc := defScope s__law_bits) (by decide +kernel)) (fun _ _ _ _ _ => (pg_name (i := 8) sc__law_bits.nd rfl (.inl rfl))) (fun _ _ _ _ _ => pts_nil) (fun _ _ _ _ _ => (pe_ix (ix_seqK K) (pe_ix (ix_seqK K) (pv 8) (pv 6) (fun _ _ => rfl)) pe_int (fun _ _ => rfl)))) pa_nil)) pa_nil)))))
 (pss_cons (ps_set (i := 4) sc__law_bits.nd rfl (.inl rfl) (pe_op (op_addK K) (pv 4) (pe_op (op_mulK K) (pe_op (op_mulK K) pe_int (pv 5)) (pe_callTy call_int1 (by rfl) N.m_int (by decide +kernel) (pa_cons (pe_callB (cr_anyK K rfl) (by rfl) N.m_any (by decide +kernel) (pa_cons (pe_lc (own := [("_law_signs", 8)]) (by rfl) sc__law_bits.nd (pi_seqK K (pv 3)) (blkOk_by (own := [("_law_signs", 8)]) (N := N__law_bits) (sc := defScope s__law_bits) (by decide +kernel)) (fun _ _ _ _ _ => (pg_name (i := 8) sc__law_bits.nd rfl (.inl rfl))) (fun _ _ _ _ _ => pts_nil) (fun _ _ _ _ _ => (pe_and (pe_ix (ix_seqK K) (pe_ix (ix_seqK K) (pv 8) (pv 6) (fun _ _ => rfl)) pe_int (fun _ _ => rfl)) (pe_one (pe_ix (ix_seqK K) (pe_ix (ix_seqK K) (pv 8) (pv 6) (fun _ _ => rfl)) pe_int (fun _ _ => rfl)))))) pa_nil)) pa_nil)))))
 (pss_one (ps_set (i := 5) sc__law_bits.nd rfl (.inl rfl) (pe_op (op_mulK K) pe_int (pv 5)))))))
 (pss_one (ps_ret (pv 4))))))),
   fun B H0 as0 => ar3 fun ways_1 room_2 many_3 => ⟨_, rfl,
 (blk_setK (i := 3) (EvN.ew (en_lcKX (i := 0) rfl (by rfl) fun _ _ _ => (lcp2 (i := 7) (j := 8) (vs := [7, 8]) (by decide) (by decide) fun end_8 signs_9 => ⟨(et_test (EvW.r (ev_op ok_eq (EvW.r (ev_var (i := 7) rfl)) (EvW.r (ev_var (i := 1) rfl))))), (ev_var (i := 8) rfl)⟩))) fun here_7 =>
 (blk_seq (blk_ifL (S := Unit) (fun s_11 => [some (.im ways_1), some (.im room_2), some (.im many_3), some (.im here_7), none, none, none, none, none]) (et_test (EvW.r (ev_op ok_eq (EvW.r (ev_var (i := 3) rfl)) (EvW.r (EvN.ew (en_lst ea_nil))))))
 (blk_ret (EvW.f ev_int))
 (blk_fin [] (by rfl))) fun s_11 =>
 (blk_tup_WW (i0 := 4) (i1 := 5) ev_int ev_int fun bits_here_12 worth_13 =>
 (blk_seq (blk_forL (S := U × U) [6] [6] (fun s_14 => [some (.im ways_1), some (.im room_2), some (.im many_3), some (.im here_7), some (.im s_14.1), some (.im s_14.2), none, none, none]) (by rfl) (src_range1 (EvW.r (ev_var (i := 2) rfl)))
 (fun s_14 k_15 st r q => ⟨_, tg_name (by decide), (blk_set (i := 4) (ev_op ok_add (EvW.r (ev_var (i := 4) rfl)) (EvW.r (ev_op ok_mul (EvW.r (ev_var (i := 5) rfl)) (EvW.r (ev_cb1 (ok_int1 (fun i H Q q => .inl ⟨i, rfl, q⟩) fun b H Q q => .inr ⟨b, rfl, q⟩) (EvW.r (ev_cb1 ok_any (EvW.r (EvN.ew (en_lc (by rfl) (src_it (ev_var (i := 3) rfl)) fun signs_19 st r q => ⟨_, tg_name (by decide), et_yes, (ev_op ok_ix (EvW.r (ev_op ok_ix (EvW.r (ev_var (i := 8) rfl)) (EvW.r (ev_var (i := 6) rfl)))) (EvW.r ev_int))⟩)))))))))) fun bits_here_18 =>
 (blk_set (i := 4) (ev_op ok_add (EvW.r (ev_var (i := 4) rfl)) (EvW.r (ev_op ok_mul (EvW.r (ev_op ok_mul (EvW.r ev_int) (EvW.r (ev_var (i := 5) rfl)))) (EvW.r (ev_cb1 (ok_int1 (fun i H Q q => .inl ⟨i, rfl, q⟩) fun b H Q q => .inr ⟨b, rfl, q⟩) (EvW.r (ev_cb1 ok_any (EvW.r (EvN.ew (en_lc (by rfl) (src_it (ev_var (i := 3) rfl)) fun signs_24 st r q => ⟨_, tg_name (by decide), et_yes, (ev_and (EvW.r (ev_op ok_ix (EvW.r (ev_op ok_ix (EvW.r (ev_var (i := 8) rfl)) (EvW.r (ev_var (i := 6) rfl)))) (EvW.r ev_int))) (ev_op ok_ix (EvW.r (ev_op ok_ix (EvW.r (ev_var (i := 8) rfl)) (EvW.r (ev_var (i := 6) rfl)))) (EvW.r ev_int)))⟩)))))))))) fun bits_here_23 =>
 (blk_last (blk_set (i := 5) (ev_op ok_mul (EvW.r ev_int) (EvW.r (ev_var (i := 5) rfl))) fun worth_26 =>
 (blk_fin [6] (by rfl))))))⟩)) fun s_14 =>
 (blk_ret (EvW.f (ev_var (i := 4) rfl)))))))⟩⟩

noncomputable def m__law_entered (pairs_here_1 signs_2 end_3 : U) : M U := fnM (.bind (lstW nilA) fun found_4 => (seqO (S := U) (.bind (zipMW (.ret pairs_here_1) (.ret signs_2)) fun us => forO (fun e_11 s_5 => un22 e_11 fun never_6 often_7 free_8 seen_9 => (.bindS (.bind (.ret (s_5, id)) fun h => .bind (consA (tupW (consA (andW (.ret free_8) (op2 notInSU (.ret end_3) (.ret never_6))) (consA (orW (.ret seen_9) (op2 inSU (.ret end_3) (.ret often_7))) nilA))) nilA) fun xs => .o (mutL appL h xs)) fun found_10 => (nxO found_10))) us found_4) fun s_5 => (rtO (op1 tupleU (.ret s_5)))))
theorem w__law_entered {P : Program} {w : World} {K : PySem.W.Frag} {mg : Str → Option Value} {bs : Heap} (N : En w K mg) : FnOk P w K mg bs CX0 1 (He.ga K "_law_entered") N.fd__law_entered ["_law_pairs_here", "_law_signs", "_law_end"] (spM ⟨K, He.ga K⟩ (L3 m__law_entered)) :=
  fn_okF N.F__law_entered sc__law_entered (ar3 fun _ _ _ => rfl) fun cv A o s H E hr => ⟨_, PSs.nox (pss_cons (ps_set (i := 3) sc__law_entered.nd rfl (.inl rfl) (pe_lst pa_nil))
 (pss_cons (ps_for PassesOwn.never rfl (pi_zipM K (by rfl) N.m_zip (pa_cons (pv 0) (pa_cons (pv 1) pa_nil))) (pg_tup rfl (pgs_cons (pg_tup rfl (pgs_cons (pg_name (i := 4) sc__law_entered.nd rfl (.inl rfl)) (pgs_cons (pg_name (i := 5) sc__law_entered.nd rfl (.inl rfl)) pgs_nil))) (pgs_cons (pg_tup rfl (pgs_cons (pg_name (i := 6) sc__law_entered.nd rfl (.inl rfl)) (pgs_cons (pg_name (i := 7) sc__law_entered.nd rfl (.inl rfl)) pgs_nil))) pgs_nil)))
 (pss_one (ps_expr (pe_bm PySem.F.plainAttrs_list PySem.F.slot_list_append PySem.F.type_list_append mt_append (pv 3) (pa_cons (pe_tup (pa_cons (pe_and (pv 6) (pe_one (pe_cmpR (op_notInAK K (rm66 hr)) (pv 2) (pv 4) (by rfl)))) (pa_cons (pe_or (pv 7) (pe_one (pe_cmpR (op_inAK K (rm66 hr)) (pv 2) (pv 5) (by rfl)))) pa_nil))) pa_nil)))))
 (pss_one (ps_ret (pe_callTy (call_tupleK K) (by rfl) N.m_tuple (by decide +kernel) (pa_cons (pv 3) pa_nil)))))),
   fun B H0 as0 => ar3 fun pairs_here_1 signs_2 end_3 => ⟨_, rfl,
 (blk_own (i := 3) (en_lst ea_nil) fun found_4 =>
 (blk_seq (blk_forL (S := U) [4, 5, 6, 7] [4, 5, 6, 7] (fun s_5 => [some (.im pairs_here_1), some (.im signs_2), some (.im end_3), some (.own (.lst .leaf) s_5), none, none, none, none]) (by rfl) (src_zipM (ev_var (i := 0) rfl) (ev_var (i := 1) rfl))
 (fun s_5 => pat22 (P := fun δ w => Blk _ _ δ w _ _) (by decide) (by decide) (by decide) (by decide) fun never_6 often_7 free_8 seen_9 => (blk_last (blk_x2 (ex_mut mut_app (eh_slot (i := 3) rfl) (ea_cons (ev_tup (ea_cons (ev_and (EvW.r (ev_var (i := 6) rfl)) (ev_op ok_notIn (EvW.r (ev_var (i := 2) rfl)) (EvW.r (ev_var (i := 4) rfl)))) (ea_cons (ev_or (EvW.r (ev_var (i := 7) rfl)) (ev_op ok_in (EvW.r (ev_var (i := 2) rfl)) (EvW.r (ev_var (i := 5) rfl)))) ea_nil))) ea_nil)) fun found_10 =>
 (blk_fin [4, 5, 6, 7] (by rfl)))))) fun s_5 =>
 (blk_ret (EvW.f (ev_cb1 ok_tuple (ev_ownL (i := 3) rfl))))))⟩⟩

noncomputable def m__law_stepped (parts_here_1 some_2 : U) : M U := fnM (.bind (callM (L1 m__law_pairs) (consA (.ret parts_here_1) nilA)) fun pairs_here_3 => (.bind (lstW nilA) fun found_4 => (seqO (S := U) (.bind (rng1W (op2 ixU (.ret parts_here_1) (.ret (.int 1)))) fun us => forO (fun room_6 s_5 => (.bind (.bind (tupW (consA (.ret room_6) (consA (op2 mulU (tupW (consA (tupW (consA (.ret (.bl true)) (consA (.ret (.bl false)) nilA))) nilA)) (op1 lenU (.ret pairs_here_3))) nilA))) fun k => .bind (.ret (.bl true)) fun v => .o (disp1NU k v)) fun here_7 => (seqO (S := U) (.bind (itW (.ret some_2)) fun us => forO (fun letter_9 s_8 => (.bind (.ret (.dcN [] [])) fun there_10 => (seqO (S := U) (noRt (.bind (keysNW (.ret s_8)) fun us => forO (fun e_21 s_11 => un2 e_21 fun at_12 signs_13 => (seqO (S := U) (.bind (itW (op2 ixU (.ret parts_here_1) (.ret (.int 3)))) fun us => forO (fun e_19 s_14 => un3 e_19 fun begin_15 named_16 end_17 => (iteW (andT (testW (op2 eqU (.ret begin_15) (.ret at_12))) (testW (op2 eqU (.ret named_16) (.ret letter_9)))) (.bind (.ret (.bl true)) fun x => .bind (tupW (consA (.ret end_17) (consA (callM (L3 m__law_entered) (consA (.ret pairs_here_3) (consA (.ret signs_13) (consA (.ret end_17) nilA)))) nilA))) fun y => .bind (.o (putNU s_14 y x)) fun there_18 => (nxO there_18)) (nxO s_14))) us s_11) fun s_14 => (nxO s_14))) us there_10)) fun s_11 => (.bind (.ret s_11) fun here_20 => (nxO here_20))))) us here_7) fun s_8 => (.bindS (.bind (.ret (s_5, id)) fun h => .bind (consA (op1 tupleU (lcW (rng1W (op2 ixU (.ret parts_here_1) (.ret (.int 1)))) (fun end_23 => (.ret true)) fun end_23 => (callM (L3 m__law_bits) (consA (.ret s_8) (consA (.ret end_23) (consA (op1 lenU (.ret pairs_here_3)) nilA)))))) nilA) fun xs => .o (mutL appL h xs)) fun found_22 => (nxO found_22))))) us found_4) fun s_5 => (rtO (op1 tupleU (.ret s_5))))))
theorem w__law_stepped {P : Program} {w : World} {K : PySem.W.Frag} {mg : Str → Option Value} {bs : Heap} (N : En w K mg) : FnOk P w K mg bs CX0 2 (He.ga K "_law_stepped") N.fd__law_stepped ["_law_parts_here", "_law_some"] (spM ⟨K, He.ga K⟩ (L2' m__law_stepped)) :=
  fn_okF N.F__law_stepped sc__law_stepped (ar2 fun _ _ => rfl) fun cv A o s H E hr => ⟨_, PSs.nox (pss_cons (ps_asg (pe_tup (pa_cons (pe_call (w__law_pairs N) (hr.mono (by decide)) (by rfl) N.g__law_pairs N.F__law_pairs.kp N.b__law_pairs .nil pass0 (pa_cons (pv 0) pa_nil)) (pa_cons (pe_lst pa_nil) pa_nil))) (pg_tup rfl (pgs_cons (pg_name (i := 2) sc__law_stepped.nd rfl (.inr rfl)) (pgs_cons (pg_name (i := 3) sc__law_stepped.nd rfl (.inl rfl)) pgs_nil))))
 (pss_cons (ps_for PassesOwn.never rfl (pi_range1 (by rfl) N.m_range (pa_cons (pe_ix (ix_seqK K) (pv 0) pe_int (fun _ _ => rfl)) pa_nil)) (pg_name (i := 4) sc__law_stepped.nd rfl (.inl rfl))
 (pss_cons (ps_set (i := 5) sc__law_stepped.nd rfl (.inr rfl) (pe_disp1N (rm66 hr) (pe_tup (pa_cons (pv 4) (pa_cons (pe_op (op_mulK K) (pe_tup (pa_cons (pe_tup (pa_cons pe_bl (pa_cons pe_bl pa_nil))) pa_nil)) (pe_callB (call_lenK K) (by rfl) N.m_len PySem.boot_len (pa_cons (pv 2) pa_nil))) pa_nil))) pe_bl))
 (pss_cons (ps_for PassesOwn.never rfl (pi_seqK K (pv 1)) (pg_name (i := 6) sc__law_stepped.nd rfl (.inl rfl))
 (pss_cons (ps_set (i := 7) sc__law_stepped.nd rfl (.inl rfl) pe_nnew)
 (pss_cons (ps_lockS (ps_for PassesOwn.never rfl (pi_keysN (pv 5)) (pg_tup rfl (pgs_cons (pg_name (i := 8) sc__law_stepped.nd rfl (.inl rfl)) (pgs_cons (pg_name (i := 9) sc__law_stepped.nd rfl (.inl rfl)) pgs_nil)))
 (pss_one (ps_for PassesOwn.never rfl (pi_seqK K (pe_ix (ix_seqK K) (pv 0) pe_int (fun _ _ => rfl))) (pg_tup rfl (pgs_cons (pg_name (i := 10) sc__law_stepped.nd rfl (.inl rfl)) (pgs_cons (pg_name (i := 11) sc__law_stepped.nd rfl (.inl rfl)) (pgs_cons (pg_name (i := 12) sc__law_stepped.nd rfl (.inl rfl)) pgs_nil))))
 (pss_one (ps_if (PW.pt (pw_and (pt_cmpR (op_eqK K hr.units) (pv 10) (pv 8) (nomark _)) (pw_and1 (pt_cmpR (op_eqK K hr.units) (pv 11) (pv 6) (nomark _)))))
 (pss_one (ps_nput (rm66 hr) (pv 7) (pe_tup (pa_cons (pv 12) (pa_cons (pe_call (w__law_entered N) (hr.mono (by decide)) (by rfl) N.g__law_entered N.F__law_entered.kp N.b__law_entered .nil pass0 (pa_cons (pv 2) (pa_cons (pv 9) (pa_cons (pv 12) pa_nil)))) pa_nil))) pe_bl rfl))
 pss_nil))))))
 (pss_one (ps_set (i := 5) sc__law_stepped.nd rfl (.inr rfl) (pv 7))))))
 (pss_one (ps_expr (pe_bm PySem.F.plainAttrs_list PySem.F.slot_list_append PySem.F.type_list_append mt_append (pv 3) (pa_cons (pe_callTy (call_tupleK K) (by rfl) N.m_tuple (by decide +kernel) (pa_cons (pe_lc (own := [("_law_end", 12)]) (by rfl) sc__law_stepped.nd (pi_range1 (by rfl) N.m_range (pa_cons (pe_ix (ix_seqK K) (pv 0) pe_int (fun _ _ => rfl)) pa_nil)) (blkOk_by (own := [("_law_end", 12)]) (N := N__law_stepped) (sc := defScope s__law_stepped) (by decide +kernel)) (fun _ _ _ _ _ => (pg_name (i := 12) sc__law_stepped.nd rfl (.inl rfl))) (fun _ _ _ _ _ => pts_nil) (fun _ _ _ _ _ => (pe_call (w__law_bits N) (hr.mono (by decide)) (by rfl) N.g__law_bits N.F__law_bits.kp N.b__law_bits .nil pass0 (pa_cons (pv 5) (pa_cons (pv 12) (pa_cons (pe_callB (call_lenK K) (by rfl) N.m_len PySem.boot_len (pa_cons (pv 2) pa_nil)) pa_nil)))))) pa_nil)) pa_nil)))))))
 (pss_one (ps_ret (pe_callTy (call_tupleK K) (by rfl) N.m_tuple (by decide +kernel) (pa_cons (pv 3) pa_nil)))))),
   fun B H0 as0 => ar2 fun parts_here_1 some_2 => ⟨_, rfl,
 (blk_tup_WN (i0 := 2) (i1 := 3) (ev_call (ea_cons (ev_var (i := 0) rfl) ea_nil)) (en_lst ea_nil) fun pairs_here_3 found_4 =>
 (blk_seq (blk_forL (S := U) [4, 5, 6, 7, 8, 9, 10, 11, 12] [4] (fun s_5 => [some (.im parts_here_1), some (.im some_2), some (.im pairs_here_3), some (.own (.lst .leaf) s_5), none, none, none, none, none, none, none, none, none]) (by rfl) (src_range1 (EvW.r (ev_op ok_ix (EvW.r (ev_var (i := 0) rfl)) (EvW.r ev_int))))
 (fun s_5 room_6 st r q => ⟨_, tg_name (by decide), (blk_set (i := 5) (EvN.ew (en_disp1N (ev_tup (ea_cons (ev_var (i := 4) rfl) (ea_cons (ev_op ok_mul (EvW.r (ev_tup (ea_cons (ev_tup (ea_cons ev_bl (ea_cons ev_bl ea_nil))) ea_nil))) (EvW.r (ev_cb1 ok_len (EvW.r (ev_var (i := 2) rfl))))) ea_nil))) ev_bl)) fun here_7 =>
 (blk_seq (blk_forL (S := U) [6, 7, 8, 9, 10, 11, 12] [6] (fun s_8 => [some (.im parts_here_1), some (.im some_2), some (.im pairs_here_3), some (.own (.lst .leaf) s_5), some (.im room_6), some (.im s_8), none, none, none, none, none, none, none]) (by rfl) (src_it (ev_var (i := 1) rfl))
 (fun s_8 letter_9 st r q => ⟨_, tg_name (by decide), (blk_own (i := 7) en_dN fun there_10 =>
 (blk_seq (blk_forKX (S := U) [8, 9, 10, 11, 12] [8, 9] (fun s_11 => [some (.im parts_here_1), some (.im some_2), some (.im pairs_here_3), some (.own (.lst .leaf) s_5), some (.im room_6), some (.im s_8), some (.im letter_9), some (.own (.dct .leaf) s_11), none, none, none, none, none]) (i := 5) (by rfl) rfl
 (fun _ _ _ => fun s_11 => pat2 (P := fun δ w => Blk _ _ δ w _ _) (by decide) (by decide) fun at_12 signs_13 => (blk_last (blk_seq (blk_forL (S := U) [10, 11, 12] [10, 11, 12] (fun s_14 => [some (.im parts_here_1), some (.im some_2), some (.im pairs_here_3), some (.own (.lst .leaf) s_5), some (.im room_6), some (.im s_8), some (.im letter_9), some (.own (.dct .leaf) s_14), some (.im at_12), some (.im signs_13), none, none, none]) (by rfl) (src_it (ev_op ok_ix (EvW.r (ev_var (i := 0) rfl)) (EvW.r ev_int)))
 (fun s_14 => pat3 (P := fun δ w => Blk _ _ δ w _ _) (by decide) (by decide) (by decide) fun begin_15 named_16 end_17 => (blk_if (et_and (et_test (EvW.r (ev_op ok_eq (EvW.r (ev_var (i := 10) rfl)) (EvW.r (ev_var (i := 8) rfl))))) (et_test (EvW.r (ev_op ok_eq (EvW.r (ev_var (i := 11) rfl)) (EvW.r (ev_var (i := 6) rfl))))))
 (blk_last (blk_nput (i := 7) rfl ev_bl (ev_tup (ea_cons (ev_var (i := 12) rfl) (ea_cons (ev_call (ea_cons (ev_var (i := 2) rfl) (ea_cons (ev_var (i := 9) rfl) (ea_cons (ev_var (i := 12) rfl) ea_nil)))) ea_nil))) fun there_18 =>
 (blk_fin [10, 11, 12] (by rfl))))
 (blk_fin [10, 11, 12] (by rfl))))) fun s_14 =>
 (blk_fin [8, 9, 10, 11, 12] (by rfl)))))) fun s_11 =>
 (blk_frz (i := 7) rfl (blk_last (blk_set (i := 5) (ev_var (i := 7) rfl) fun here_20 =>
 (blk_fin [6, 7, 8, 9, 10, 11, 12] (by rfl)))))))⟩)) fun s_8 =>
 (blk_last (blk_x2 (ex_mut mut_app (eh_slot (i := 3) rfl) (ea_cons (ev_cb1 ok_tuple (EvW.r (EvN.ew (en_lc (by rfl) (src_range1 (EvW.r (ev_op ok_ix (EvW.r (ev_var (i := 0) rfl)) (EvW.r ev_int)))) fun end_23 st r q => ⟨_, tg_name (by decide), et_yes, (ev_call (ea_cons (ev_var (i := 5) rfl) (ea_cons (ev_var (i := 12) rfl) (ea_cons (ev_cb1 ok_len (EvW.r (ev_var (i := 2) rfl))) ea_nil))))⟩)))) ea_nil)) fun found_22 =>
 (blk_fin [4, 5, 6, 7, 8, 9, 10, 11, 12] (by rfl))))))⟩)) fun s_5 =>
 (blk_ret (EvW.f (ev_cb1 ok_tuple (ev_ownL (i := 3) rfl))))))⟩⟩

noncomputable def m_law (script_1 : U) : M U := fnM (seqO (S := Unit) (.bind (rng1W (op2 addU (.ret (.int 1)) (op2 min2U (.ret (.int 2)) (op1 lenU (.ret script_1))))) fun us => forO (fun k_3 s_2 => (.bind (callM (L2' m__law_box) (consA (.ret script_1) (consA (.ret k_3) nilA))) fun box_here_4 => (.bind (callM (L3 m__law_parts) (consA (.ret box_here_4) (consA (op2 addU (.ret (.int 1)) (callM (L2' m__law_take) (consA (.ret box_here_4) (consA (.ret (.int 3)) nilA)))) (consA (op2 addU (.ret (.int 1)) (callM (L2' m__law_take) (consA (.ret box_here_4) (consA (.ret (.int 4)) nilA)))) nilA)))) fun parts_here_5 => (.bind (callM (L1 m__law_made) (consA (.ret parts_here_5) nilA)) fun hall_6 => (seqO (S := Unit) (.bind (rng1W (.ret (.int 4))) fun us => forO (fun turn_8 s_7 => (.bind (op1 tupleU (lcW (rng1W (op2 addU (.ret (.int 1)) (callM (L2' m__law_take) (consA (.ret box_here_4) (consA (.ret (.int 4)) nilA))))) (fun place_12 => (.ret true)) fun place_12 => (callM (L2' m__law_take) (consA (.ret box_here_4) (consA (op2 ixU (.ret parts_here_5) (.ret (.int 0))) nilA))))) fun some_11 => (.bind (callM (L2' m_step_of) (consA (.ret hall_6) (consA (.ret some_11) nilA))) fun step_14 => (.bind (op1 reprU (.ret step_14)) fun kept_15 => (seqO (S := Unit) (.bind (rng1W (op2 addU (op2 ixU (.ret parts_here_5) (.ret (.int 0))) (.ret (.int 1)))) fun us => forO (fun letter_17 s_16 => (.bind (callM (L3 m_step_on) (consA (.ret hall_6) (consA (.ret step_14) (consA (.ret letter_17) nilA)))) fun found_18 => (iteW (orT (testW (op2 neU (op1 reprU (.ret found_18)) (op1 reprU (callM (L2' m__law_stepped) (consA (.ret parts_here_5) (consA (op2 addU (.ret some_11) (tupW (consA (.ret letter_17) nilA))) nilA)))))) (testW (op2 neU (op1 reprU (.ret step_14)) (.ret kept_15)))) (rtO (.ret (.bl false))) (nxO ())))) us ()) fun s_16 => (nxO ())))))) us ()) fun s_7 => (.bind (op1 tupleU (lcW (rng1W (.ret (.int 40))) (fun place_23 => (.ret true)) fun place_23 => (callM (L2' m__law_take) (consA (.ret box_here_4) (consA (op2 ixU (.ret parts_here_5) (.ret (.int 0))) nilA))))) fun some_22 => (.bind (callM (L2' m_step_of) (consA (.ret hall_6) (consA (slW (.ret some_22) noP (someP (.ret (.int 1)))) nilA))) fun step_25 => (seqO (S := U) (.bind (itW (slW (.ret some_22) (someP (.ret (.int 1))) noP)) fun us => forO (fun letter_27 s_26 => (.bind (callM (L3 m_step_on) (consA (.ret hall_6) (consA (.ret s_26) (consA (.ret letter_27) nilA)))) fun step_28 => (nxO step_28))) us step_25) fun s_26 => (iteW (testW (op2 neU (op1 reprU (.ret s_26)) (op1 reprU (callM (L2' m_step_of) (consA (.ret hall_6) (consA (.ret some_22) nilA)))))) (rtO (.ret (.bl false))) (nxO ())))))))))) us ()) fun s_2 => (rtO (.ret (.bl true))))
theorem w_law {P : Program} {w : World} {K : PySem.W.Frag} {mg : Str → Option Value} {bs : Heap} (N : En w K mg) : FnG P w K mg bs CX0 10 (He.ga K "law") N.fd_law ["_law_script"] (spM ⟨K, He.ga K⟩ (L1 m_law)) :=
  fn_ok N.F_law sc_law (ar1 fun _ => rfl) fun cv A o s H E gd hr => ⟨_, PSs.nox (pss_cons (ps_for PassesOwn.never rfl (pi_range1 (by rfl) N.m_range (pa_cons (pe_op (op_addK K) pe_int (pe_callB (call_min2 rfl) (by rfl) N.m_min (by decide +kernel) (pa_cons pe_int (pa_cons (pe_callB (call_lenK K) (by rfl) N.m_len PySem.boot_len (pa_cons (pv 0) pa_nil)) pa_nil)))) pa_nil)) (pg_name (i := 1) sc_law.nd rfl (.inl rfl))
 (pss_cons (ps_set (i := 2) sc_law.nd rfl (.inr rfl) (pe_call (w__law_box N) (hr.mono (by decide)) (by rfl) N.g__law_box N.F__law_box.kp N.b__law_box .nil pass0 (pa_cons (pv 0) (pa_cons (pv 1) pa_nil))))
 (pss_cons (ps_set (i := 3) sc_law.nd rfl (.inr rfl) (pe_call (w__law_parts N) (hr.mono (by decide)) (by rfl) N.g__law_parts N.F__law_parts.kp N.b__law_parts .nil pass0 (pa_cons (pv 2) (pa_cons (pe_op (op_addK K) pe_int (pe_call (w__law_take N) (hr.mono (by decide)) (by rfl) N.g__law_take N.F__law_take.kp N.b__law_take .nil pass0 (pa_cons (pv 2) (pa_cons pe_int pa_nil)))) (pa_cons (pe_op (op_addK K) pe_int (pe_call (w__law_take N) (hr.mono (by decide)) (by rfl) N.g__law_take N.F__law_take.kp N.b__law_take .nil pass0 (pa_cons (pv 2) (pa_cons pe_int pa_nil)))) pa_nil)))))
 (pss_cons (ps_set (i := 4) sc_law.nd rfl (.inl rfl) (pe_call (w__law_made N) (hr.mono (by decide)) (by rfl) N.g__law_made N.F__law_made.kp N.b__law_made .nil pass0 (pa_cons (pv 3) pa_nil)))
 (pss_cons (ps_for PassesOwn.never rfl (pi_range1 (by rfl) N.m_range (pa_cons pe_int pa_nil)) (pg_name (i := 5) sc_law.nd rfl (.inl rfl))
 (pss_cons (ps_set (i := 6) sc_law.nd rfl (.inl rfl) (pe_callTy (call_tupleK K) (by rfl) N.m_tuple (by decide +kernel) (pa_cons (pe_lc (own := [("_law_place", 11)]) (by rfl) sc_law.nd (pi_range1 (by rfl) N.m_range (pa_cons (pe_op (op_addK K) pe_int (pe_call (w__law_take N) (hr.mono (by decide)) (by rfl) N.g__law_take N.F__law_take.kp N.b__law_take .nil pass0 (pa_cons (pv 2) (pa_cons pe_int pa_nil)))) pa_nil)) (blkOk_by (own := [("_law_place", 11)]) (N := N_law) (sc := defScope s_law) (by decide +kernel)) (fun _ _ _ _ _ => (pg_name (i := 11) sc_law.nd rfl (.inl rfl))) (fun _ _ _ _ _ => pts_nil) (fun _ _ _ _ _ => (pe_call (w__law_take N) (hr.mono (by decide)) (by rfl) N.g__law_take N.F__law_take.kp N.b__law_take .nil pass0 (pa_cons (pv 2) (pa_cons (pe_ix (ix_seqK K) (pv 3) pe_int (fun _ _ => rfl)) pa_nil))))) pa_nil)))
 (pss_cons (ps_set (i := 7) sc_law.nd rfl (.inl rfl) (pe_call (w_step_of N) (hr.mono (by decide)) (by rfl) N.g_step_of N.F_step_of.kp N.b_step_of .nil pass0 (pa_cons (pv 4) (pa_cons (pv 6) pa_nil))))
 (pss_cons (ps_set (i := 8) sc_law.nd rfl (.inl rfl) (pe_callB (call_reprK K gd (rm66 hr)) (by rfl) N.m_repr (by decide +kernel) (pa_cons (pv 7) pa_nil)))
 (pss_one (ps_for PassesOwn.never rfl (pi_range1 (by rfl) N.m_range (pa_cons (pe_op (op_addK K) (pe_ix (ix_seqK K) (pv 3) pe_int (fun _ _ => rfl)) pe_int) pa_nil)) (pg_name (i := 9) sc_law.nd rfl (.inl rfl))
 (pss_cons (ps_set (i := 10) sc_law.nd rfl (.inl rfl) (pe_call (w_step_on N) (hr.mono (by decide)) (by rfl) N.g_step_on N.F_step_on.kp N.b_step_on .nil pass0 (pa_cons (pv 4) (pa_cons (pv 7) (pa_cons (pv 9) pa_nil)))))
 (pss_one (ps_if (PW.pt (pw_or (pt_cmpR (op_neK K hr.units) (pe_callB (call_reprK K gd (rm66 hr)) (by rfl) N.m_repr (by decide +kernel) (pa_cons (pv 10) pa_nil)) (pe_callB (call_reprK K gd (rm66 hr)) (by rfl) N.m_repr (by decide +kernel) (pa_cons (pe_call (w__law_stepped N) (hr.mono (by decide)) (by rfl) N.g__law_stepped N.F__law_stepped.kp N.b__law_stepped .nil pass0 (pa_cons (pv 3) (pa_cons (pe_op (op_addK K) (pv 6) (pe_tup (pa_cons (pv 9) pa_nil))) pa_nil))) pa_nil)) (nomark _)) (pw_or1 (pt_cmpR (op_neK K hr.units) (pe_callB (call_reprK K gd (rm66 hr)) (by rfl) N.m_repr (by decide +kernel) (pa_cons (pv 7) pa_nil)) (pv 8) (nomark _)))))
 (pss_one (ps_ret pe_bl))
 pss_nil)))))))))
 (pss_cons (ps_set (i := 6) sc_law.nd rfl (.inl rfl) (pe_callTy (call_tupleK K) (by rfl) N.m_tuple (by decide +kernel) (pa_cons (pe_lc (own := [("_law_place", 11)]) (by rfl) sc_law.nd (pi_range1 (by rfl) N.m_range (pa_cons pe_int pa_nil)) (blkOk_by (own := [("_law_place", 11)]) (N := N_law) (sc := defScope s_law) (by decide +kernel)) (fun _ _ _ _ _ => (pg_name (i := 11) sc_law.nd rfl (.inl rfl))) (fun _ _ _ _ _ => pts_nil) (fun _ _ _ _ _ => (pe_call (w__law_take N) (hr.mono (by decide)) (by rfl) N.g__law_take N.F__law_take.kp N.b__law_take .nil pass0 (pa_cons (pv 2) (pa_cons (pe_ix (ix_seqK K) (pv 3) pe_int (fun _ _ => rfl)) pa_nil))))) pa_nil)))
 (pss_cons (ps_set (i := 7) sc_law.nd rfl (.inl rfl) (pe_call (w_step_of N) (hr.mono (by decide)) (by rfl) N.g_step_of N.F_step_of.kp N.b_step_of .nil pass0 (pa_cons (pv 4) (pa_cons (pe_slice (sl_seqK K) (pv 6) po_none (po_some pe_int)) pa_nil))))
 (pss_cons (ps_for PassesOwn.never rfl (pi_seqK K (pe_slice (sl_seqK K) (pv 6) (po_some pe_int) po_none)) (pg_name (i := 9) sc_law.nd rfl (.inl rfl))
 (pss_one (ps_set (i := 7) sc_law.nd rfl (.inl rfl) (pe_call (w_step_on N) (hr.mono (by decide)) (by rfl) N.g_step_on N.F_step_on.kp N.b_step_on .nil pass0 (pa_cons (pv 4) (pa_cons (pv 7) (pa_cons (pv 9) pa_nil)))))))
 (pss_one (ps_if (pt_cmpR (op_neK K hr.units) (pe_callB (call_reprK K gd (rm66 hr)) (by rfl) N.m_repr (by decide +kernel) (pa_cons (pv 7) pa_nil)) (pe_callB (call_reprK K gd (rm66 hr)) (by rfl) N.m_repr (by decide +kernel) (pa_cons (pe_call (w_step_of N) (hr.mono (by decide)) (by rfl) N.g_step_of N.F_step_of.kp N.b_step_of .nil pass0 (pa_cons (pv 4) (pa_cons (pv 6) pa_nil))) pa_nil)) (nomark _))
 (pss_one (ps_ret pe_bl))
 pss_nil))))))))))
 (pss_one (ps_ret pe_bl))),
   fun B H0 as0 => ar1 fun script_1 => ⟨_, rfl,
 (blk_seq (blk_forL (S := Unit) [1, 2, 3, 4, 5, 6, 7, 9, 8, 10] [1] (fun s_2 => [some (.im script_1), none, none, none, none, none, none, none, none, none, none, none]) (by rfl) (src_range1 (EvW.r (ev_op ok_add (EvW.r ev_int) (EvW.r (ev_min2 (EvW.r ev_int) (EvW.r (ev_cb1 ok_len (EvW.r (ev_var (i := 0) rfl)))))))))
 (fun s_2 k_3 st r q => ⟨_, tg_name (by decide), (blk_set (i := 2) (ev_call (ea_cons (ev_var (i := 0) rfl) (ea_cons (ev_var (i := 1) rfl) ea_nil))) fun box_here_4 =>
 (blk_set (i := 3) (ev_call (ea_cons (ev_var (i := 2) rfl) (ea_cons (ev_op ok_add (EvW.r ev_int) (EvW.r (ev_call (ea_cons (ev_var (i := 2) rfl) (ea_cons ev_int ea_nil))))) (ea_cons (ev_op ok_add (EvW.r ev_int) (EvW.r (ev_call (ea_cons (ev_var (i := 2) rfl) (ea_cons ev_int ea_nil))))) ea_nil)))) fun parts_here_5 =>
 (blk_set (i := 4) (ev_call (ea_cons (ev_var (i := 3) rfl) ea_nil)) fun hall_6 =>
 (blk_seq (blk_forL (S := Unit) [5, 6, 7, 8, 9, 10] [5] (fun s_7 => [some (.im script_1), some (.im k_3), some (.im box_here_4), some (.im parts_here_5), some (.im hall_6), none, none, none, none, none, none, none]) (by rfl) (src_range1 (EvW.r ev_int))
 (fun s_7 turn_8 st r q => ⟨_, tg_name (by decide), (blk_set (i := 6) (ev_cb1 ok_tuple (EvW.r (EvN.ew (en_lc (by rfl) (src_range1 (EvW.r (ev_op ok_add (EvW.r ev_int) (EvW.r (ev_call (ea_cons (ev_var (i := 2) rfl) (ea_cons ev_int ea_nil))))))) fun place_12 st r q => ⟨_, tg_name (by decide), et_yes, (ev_call (ea_cons (ev_var (i := 2) rfl) (ea_cons (ev_op ok_ix (EvW.r (ev_var (i := 3) rfl)) (EvW.r ev_int)) ea_nil)))⟩)))) fun some_11 =>
 (blk_set (i := 7) (ev_call (ea_cons (ev_var (i := 4) rfl) (ea_cons (ev_var (i := 6) rfl) ea_nil))) fun step_14 =>
 (blk_set (i := 8) (ev_cb1 ok_repr (EvW.r (ev_var (i := 7) rfl))) fun kept_15 =>
 (blk_last (blk_seq (blk_forL (S := Unit) [9, 10] [9] (fun s_16 => [some (.im script_1), some (.im k_3), some (.im box_here_4), some (.im parts_here_5), some (.im hall_6), some (.im turn_8), some (.im some_11), some (.im step_14), some (.im kept_15), none, none, none]) (by rfl) (src_range1 (EvW.r (ev_op ok_add (EvW.r (ev_op ok_ix (EvW.r (ev_var (i := 3) rfl)) (EvW.r ev_int))) (EvW.r ev_int))))
 (fun s_16 letter_17 st r q => ⟨_, tg_name (by decide), (blk_set (i := 10) (ev_call (ea_cons (ev_var (i := 4) rfl) (ea_cons (ev_var (i := 7) rfl) (ea_cons (ev_var (i := 9) rfl) ea_nil)))) fun found_18 =>
 (blk_if (et_or (et_test (EvW.r (ev_op ok_ne (EvW.r (ev_cb1 ok_repr (EvW.r (ev_var (i := 10) rfl)))) (EvW.r (ev_cb1 ok_repr (EvW.r (ev_call (ea_cons (ev_var (i := 3) rfl) (ea_cons (ev_op ok_add (EvW.r (ev_var (i := 6) rfl)) (EvW.r (ev_tup (ea_cons (ev_var (i := 9) rfl) ea_nil)))) ea_nil))))))))) (et_test (EvW.r (ev_op ok_ne (EvW.r (ev_cb1 ok_repr (EvW.r (ev_var (i := 7) rfl)))) (EvW.r (ev_var (i := 8) rfl))))))
 (blk_ret (EvW.f ev_bl))
 (blk_fin [9, 10] (by rfl))))⟩)) fun s_16 =>
 (blk_fin [5, 6, 7, 8, 9, 10] (by rfl)))))))⟩)) fun s_7 =>
 (blk_set (i := 6) (ev_cb1 ok_tuple (EvW.r (EvN.ew (en_lc (by rfl) (src_range1 (EvW.r ev_int)) fun place_23 st r q => ⟨_, tg_name (by decide), et_yes, (ev_call (ea_cons (ev_var (i := 2) rfl) (ea_cons (ev_op ok_ix (EvW.r (ev_var (i := 3) rfl)) (EvW.r ev_int)) ea_nil)))⟩)))) fun some_22 =>
 (blk_set (i := 7) (ev_call (ea_cons (ev_var (i := 4) rfl) (ea_cons (ev_sl (EvW.r (ev_var (i := 6) rfl)) eo_none (eo_some (EvW.r ev_int))) ea_nil))) fun step_25 =>
 (blk_seq (blk_forL (S := U) [9] [9] (fun s_26 => [some (.im script_1), some (.im k_3), some (.im box_here_4), some (.im parts_here_5), some (.im hall_6), none, some (.im some_22), some (.im s_26), none, none, none, none]) (by rfl) (src_it (ev_sl (EvW.r (ev_var (i := 6) rfl)) (eo_some (EvW.r ev_int)) eo_none))
 (fun s_26 letter_27 st r q => ⟨_, tg_name (by decide), (blk_last (blk_set (i := 7) (ev_call (ea_cons (ev_var (i := 4) rfl) (ea_cons (ev_var (i := 7) rfl) (ea_cons (ev_var (i := 9) rfl) ea_nil)))) fun step_28 =>
 (blk_fin [9] (by rfl))))⟩)) fun s_26 =>
 (blk_if (et_test (EvW.r (ev_op ok_ne (EvW.r (ev_cb1 ok_repr (EvW.r (ev_var (i := 7) rfl)))) (EvW.r (ev_cb1 ok_repr (EvW.r (ev_call (ea_cons (ev_var (i := 4) rfl) (ea_cons (ev_var (i := 6) rfl) ea_nil)))))))))
 (blk_ret (EvW.f ev_bl))
 (blk_fin [1, 2, 3, 4, 5, 6, 7, 9, 8, 10] (by rfl))))))))))⟩)) fun s_2 =>
 (blk_ret (EvW.f ev_bl)))⟩⟩

local macro_rules | `(tactic| walk_at "v1") => `(tactic| with_reducible first
  | refine vs_ret ?_ | refine vs_o ?_ | refine wo_some ?_ | refine Wp.bind ?_ | refine vs_op2 ?_ | refine vs_op1 ?_ | refine vs_test ?_ | refine vs_not ?_ | refine vs_and ?_ | refine vs_or ?_ | refine vs_andW ?_ | refine vs_orW ?_ | refine vs_ite ?_ | refine vs_chain ?_
  | refine vs_consA ?_ | refine vs_nilA ?_ | refine vs_tup ?_ | refine vs_lst ?_ | refine vs_call ?_ | refine vs_meth ?_ | refine vs_L1 ?_ | refine vs_L2 ?_ | refine vs_L3 ?_ | refine vs_L4 ?_ | refine vs_L5 ?_ | refine vs_L6 ?_ | refine vs_L0 ?_
  | refine vs_seq ?_ | refine sk_nx ?_ | refine sk_rt ?_ | refine sk_bk ?_ | refine sk_ct ?_ | refine fk_rt ?_ | refine fk_nx ?_ | refine ok_nx ?_ | refine ok_ct ?_ | refine ok_bk ?_ | refine ok_rt ?_ | refine vs_rt ?_ | refine vs_nx ?_ | refine vs_fn ?_
  | refine vs_noP ?_ | refine vs_someP ?_ | refine vs_sl ?_ | refine vs_it ?_ | refine vs_rng1 ?_ | refine vs_rng2 ?_ | refine vs_zip ?_ | refine vs_un2 ?_ | refine vs_un3 ?_ | refine vs_un4 ?_ | refine vs_un5 ?_ | refine vs_un6 ?_ | refine vs_lc ?_ | refine vs_lc2 ?_ | refine vs_bind2 ?_ | refine vs_bindS ?_ | refine vs_enum ?_ | refine vs_keys ?_ | refine vs_tupR ?_ | refine vs_lstR ?_ | refine vs_xitem ?_ | refine vs_itX ?_ | refine vs_keysN ?_ | refine vs_un22 ?_ | refine vs_un21 ?_
  | refine if_t ?_ | refine if_f ?_ | refine if_nt ?_ | refine if_nf ?_
  | refine wo_add_i ?_ | refine wo_sub ?_ | refine wo_neg ?_ | refine wo_le ?_ | refine wo_lt ?_ | refine wo_gt ?_ | refine wo_ge ?_ | refine wo_eq_i ?_ | refine wo_ne_i ?_ | refine wo_eq_s ?_ | refine wo_ne_s ?_ | refine wo_not ?_ | refine wo_bool ?_ | refine wo_int ?_
  | refine wo_len_t ?_ | refine wo_len_l ?_ | refine wo_len_f ?_ | refine wo_tuple_l ?_ | refine wo_tuple_t ?_ | refine wo_list_l ?_ | refine wo_list_t ?_ | refine wo_it_t ?_ | refine wo_it_l ?_ | refine wo_it_f ?_ | refine wo_sl_t ?_ | refine wo_sl_l ?_ | refine wo_zip_tt ?_ | refine wo_enum_t ?_ | refine wo_enum_l ?_ | refine wo_in_t ?_ | refine wo_in_l ?_ | refine wo_nin_t ?_ | refine wo_nin_l ?_ | refine wo_eq_b ?_ | refine wo_ne_b ?_ | refine wo_dTin ?_ | refine wo_dTnin ?_ | refine wo_dTkeys ?_)
local macro_rules | `(tactic| walk_at "v2") => `(tactic| first
  | refine ⟨lit_le rfl, ?_⟩
  | (with_reducible refine wo_mul (by omega) ?_) | (with_reducible refine wo_modp (by omega) ?_) | (with_reducible refine wo_mod (by omega) ?_) | (with_reducible refine wo_fdiv (by omega) (by omega) ?_)
  | (with_reducible refine wo_rng1 ⟨by omega, by omega⟩ ?_) | (with_reducible refine wo_rng2 ⟨by omega, by omega⟩ ⟨by omega, by omega⟩ ?_)
  | (with_reducible refine wo_ix_t rfl ?_) | (with_reducible refine wo_ix_l rfl ?_) | (with_reducible refine wo_ix0 ?_) | (with_reducible refine wo_ix1 ?_) | (with_reducible refine wo_ix2 ?_) | (with_reducible refine wo_isObj rfl ?_) | (with_reducible refine wo_fld rfl ?_))
local macro_rules | `(tactic| walk_at "v") => `(tactic| repeat (first | walk_at "v1" | walk_at "v2"))

def Rs (n : Int) (rs : List Int) : Prop := rs.Pairwise (· < ·) ∧ ∀ r ∈ rs, 0 ≤ r ∧ r < n
theorem rng_at {n : Int} (h0 : 0 ≤ n) (h1 : n < 1000000000) : rng1U (.int n) = some ((List.range n.toNat).map fun i => U.int (i : Nat)) := if_pos ⟨by omega, by omega⟩
theorem wp_rng {n : Int} {st : Sto} {Q : List U → Sto → Prop} (h0 : 0 ≤ n) (h1 : n < 1000000000) (q : Q ((List.range n.toNat).map fun i => U.int (i : Nat)) st) : Wp (rng1W (.ret (.int n))) st Q := .bind (.ret (.o (rng_at h0 h1) q))
def pairU (p : List Int × List Int) : U := .tup [.tup (p.1.map .int), .tup (p.2.map .int)]
inductive ByOk (n : Int) : Str → U → Prop where
  | again {rs : List Int} (h : Rs n rs) : ByOk n "again" (.tup (rs.map .int))
  | last {rs : List Int} (h : Rs n rs) : ByOk n "at last" (.tup (rs.map .int))
  | pairs {ps : List (List Int × List Int)} (l : ps.length ≤ 4) (h : ∀ p ∈ ps, Rs n p.1 ∧ Rs n p.2) : ByOk n "pairs" (.tup (ps.map pairU))
  | ranks {rk : List Int} (l : (rk.length : Int) = n) (h : ∀ r ∈ rk, 0 ≤ r) : ByOk n "ranks" (.tup (rk.map .int))
def kinds4 : List U := [.str "again", .str "at last", .str "pairs", .str "ranks"]
def Tri (n L : Int) (w : List Int) : Prop := ∃ r l e : Int, w = [r, l, e] ∧ 0 ≤ r ∧ r < n ∧ 0 ≤ l ∧ l < L ∧ 0 ≤ e ∧ e < n
def lexLt : List Int → List Int → Prop
  | [r, l, e], [r', l', e'] => r < r' ∨ (r = r' ∧ (l < l' ∨ (l = l' ∧ e < e')))
  | _, _ => False
def WOk (n L : Int) (W : List (List Int)) : Prop := (∀ w ∈ W, Tri n L w) ∧ W.Pairwise lexLt
def Ahd (i j : Int) (W : List (List Int)) : Prop := ∀ w ∈ W, ∃ r l e : Int, w = [r, l, e] ∧ (r < i ∨ (r = i ∧ l < j))
theorem wok_more {n L i j : Int} {W : List (List Int)} {es : List Int} (h : WOk n L W) (ha : Ahd i j W) (hi : 0 ≤ i ∧ i < n) (hj : 0 ≤ j ∧ j < L) (he : Rs n es) : WOk n L (W ++ es.map fun e => [i, j, e]) ∧ Ahd i (j + 1) (W ++ es.map fun e => [i, j, e]) := by
  refine ⟨⟨fun w m => ?_, ?_⟩, fun w m => ?_⟩
  · rcases List.mem_append.mp m with m | m
    · exact h.1 w m
    · obtain ⟨e, me, rfl⟩ := List.mem_map.mp m
      have := he.2 e me
      exact ⟨i, j, e, rfl, hi.1, hi.2, hj.1, hj.2, this.1, this.2⟩
  · rw [List.pairwise_append]
    refine ⟨h.2, List.pairwise_map.mpr (he.1.imp fun h => .inr ⟨rfl, .inr ⟨rfl, h⟩⟩), fun a ma b mb => ?_⟩
    obtain ⟨r, l, e, rfl, q⟩ := ha a ma
    obtain ⟨e', me, rfl⟩ := List.mem_map.mp mb
    rcases q with q | ⟨q1, q2⟩
    · exact .inl q
    · exact .inr ⟨q1, .inl q2⟩
  · rcases List.mem_append.mp m with m | m
    · obtain ⟨r, l, e, rfl, q⟩ := ha w m
      exact ⟨r, l, e, rfl, by omega⟩
    · obtain ⟨e, me, rfl⟩ := List.mem_map.mp m
      exact ⟨i, j, e, rfl, by omega⟩
structure HallOk (L n : Int) (u : U) : Prop where
  ex : ∃ (s : Int) (W : List (List Int)) (kind : Str) (B : U), u = .tup [.int L, .int n, .int s, .tup (W.map tupI), .str kind, B] ∧ 0 ≤ s ∧ s < n ∧ WOk n L W ∧ U.str kind ∈ kinds4 ∧ ByOk n kind B

theorem wp_ret {α : Type} {w : M α} {a : α} {st : Sto} {Q : α → Sto → Prop} (e : w = .ret a) (q : Q a st) : Wp w st Q := e ▸ .ret q
theorem below_eq {i n : Int} (h0 : 0 ≤ i) (h1 : i < n) : m_is_below (.int i) (.int n) = .ret (.bl true) := by
  have e : m_is_below (.int i) (.int n) = fnM (rtO (M.bind (M.o (boolU (.bl (decide (0 ≤ i))))) fun k => if k = true then M.o (ltU (.int i) (.int n)) else .ret (.bl false))) := rfl
  rw [e, decide_eq_true h0]
  show fnM (rtO (M.o (some (U.bl (decide (i < n)))))) = _
  rw [decide_eq_true h1]
  rfl
theorem comp_map {wt : U → M Bool} {we : U → M U} {f : U → U} : ∀ {us : List U}, (∀ u ∈ us, wt u = .ret true ∧ we u = .ret (f u)) → compM wt we us = .ret (us.map f)
  | [], _ => rfl
  | u :: us, h => by
    rw [compM, (h u List.mem_cons_self).1]
    show M.bind (we u) _ = _
    rw [(h u List.mem_cons_self).2]
    show M.bind (compM wt we us) _ = _
    rw [comp_map fun v m => h v (List.mem_cons_of_mem _ m)]
    rfl
theorem bools_true : ∀ (n : Nat), boolsU (List.replicate n (U.bl true)) = some (List.replicate n true)
  | 0 => rfl
  | n + 1 => by rw [List.replicate_succ, boolsU, bools_true n]; rfl
theorem all_true (n : Nat) : allU (.lst (List.replicate n (U.bl true))) = some (.bl true) := by
  simp only [allU, bools_true, Option.map_some]
  congr 2
  simp
theorem map_true {α : Type} (us : List α) : us.map (fun _ => U.bl true) = List.replicate us.length (U.bl true) := by
  rw [List.map_const']
theorem lc_true {wl : M (List U)} {wt : U → M Bool} {we : U → M U} {us : List U} (hl : wl = .ret us) (hs : us.length ≤ sizeLine) (h : ∀ u ∈ us, wt u = .ret true ∧ we u = .ret (.bl true)) : op1 allU (lcW wl wt we) = .ret (.bl true) := by
  unfold op1 lcW
  rw [hl]
  show M.bind (M.bind (compM wt we us) fun r => .o (szU r)) (fun a => .o (allU a)) = _
  rw [comp_map (f := fun _ => .bl true) h]
  show M.bind (M.o (szU (us.map fun _ => U.bl true))) (fun a => M.o (allU a)) = _
  rw [map_true, szU, if_pos (by rw [List.length_replicate]; exact hs)]
  show M.o (allU _) = _
  rw [all_true]; rfl
theorem pd_row (ns : List Int) : pd (tupI ns) = some (.tuple (ns.map PyData.int)) := by simp [tupI, pd, pdAll_ints]
theorem ltU_row {a b : List Int} (h : lexLt a b) : ltU (tupI a) (tupI b) = some (.bl true) := by
  match a, b, h with
  | [r, l, e], [r', l', e'], h =>
    have e0 : ltU (tupI [r, l, e]) (tupI [r', l', e']) = (match pd (tupI [r, l, e]), pd (tupI [r', l', e']) with
      | some d, some e => if PySem.W.alike d e = true ∧ notNone d = true ∧ d.depth ≤ 64 then some (U.bl (PySem.W.dataLt d e)) else none
      | _, _ => none) := rfl
    rw [e0, pd_row, pd_row]
    simp only
    rw [if_pos ⟨by simp [PySem.W.alike, PySem.W.alikeAll], rfl, by simp [PyData.depth, PyData.depthAll]⟩]
    congr 2
    simp only [List.map_cons, List.map_nil]
    rw [PySem.W.dataLt_tuple]
    by_cases z : r = r'
    · rw [PySem.W.dataLt_all_yes (by simp [PySem.W.alike]) (by simp [PyData.eqv, z])]
      by_cases y : l = l'
      · rw [PySem.W.dataLt_all_yes (by simp [PySem.W.alike]) (by simp [PyData.eqv, y])]
        have q : e < e' := by simp only [lexLt] at h; omega
        have ne : e ≠ e' := by omega
        rw [PySem.W.dataLt_all_no (by simp [PySem.W.alike]) (by simp [PyData.eqv, ne]), PySem.W.dataLt_int]
        exact decide_eq_true q
      · have q : l < l' := by simp only [lexLt] at h; omega
        rw [PySem.W.dataLt_all_no (by simp [PySem.W.alike]) (by simp [PyData.eqv, y]), PySem.W.dataLt_int]
        exact decide_eq_true q
    · have q : r < r' := by simp only [lexLt] at h; omega
      rw [PySem.W.dataLt_all_no (by simp [PySem.W.alike]) (by simp [PyData.eqv, z]), PySem.W.dataLt_int]
      exact decide_eq_true q
theorem rising_eq {us : List U} (hl : us.length ≤ 1000000) (h : ∀ (i : Nat) (a b : U), us[i]? = some a → us[i + 1]? = some b → ltU a b = some (.bl true)) : m_are_rising (.tup us) = .ret (.bl true) := by
  have sz : (1000000 : Nat) ≤ sizeLine := by decide
  unfold m_are_rising
  have hz : zipW (.ret (.tup us)) (slW (.ret (.tup us)) (someP (.ret (.int 1))) noP) = .ret (zipL us (us.drop 1)) := by
    show M.o (some (zipL us (EL.cut us (some ((1 : Nat) : Int)) none))) = _
    rw [EL.cut_from]; rfl
  have key : op1 allU (lcW (zipW (.ret (.tup us)) (slW (.ret (.tup us)) (someP (.ret (.int 1))) noP)) (fun e => un2 e fun a b => .ret true) fun e => un2 e fun a b => op2 ltU (.ret a) (.ret b)) = .ret (.bl true) := by
    refine lc_true hz (by rw [zipL_len]; omega) fun u m => ?_
    obtain ⟨i, hi⟩ := List.getElem?_of_mem m
    obtain ⟨x, y, e1, e2, rfl⟩ := zipL_get hi
    rw [List.getElem?_drop, Nat.add_comm] at e2
    refine ⟨rfl, ?_⟩
    show M.o (ltU x y) = _
    rw [h i x y e1 e2]; rfl
  rw [key]; rfl
theorem rise_ints {n : Int} {rs : List Int} (h : Rs n rs) (i : Nat) (a b : U) (ha : (rs.map U.int)[i]? = some a) (hb : (rs.map U.int)[i + 1]? = some b) : ltU a b = some (.bl true) := by
  rw [List.getElem?_map] at ha hb
  obtain ⟨x, ex, rfl⟩ := Option.map_eq_some_iff.mp ha
  obtain ⟨y, ey, rfl⟩ := Option.map_eq_some_iff.mp hb
  have hi := getElem?_lt ex
  have hj := getElem?_lt ey
  have := List.pairwise_iff_getElem.mp h.1 i (i + 1) hi hj (by omega)
  rw [List.getElem?_eq_getElem hi] at ex
  rw [List.getElem?_eq_getElem hj] at ey
  cases ex; cases ey
  show some (U.bl (decide (_ < _))) = _
  rw [decide_eq_true this]
theorem rooms_eq {n : Int} {rs : List Int} (h : Rs n rs) (hl : rs.length ≤ 100000) : m_are_rooms (.int n) (.tup (rs.map .int)) = .ret (.bl true) := by
  have sz : (1000000 : Nat) ≤ sizeLine := by decide
  have e1 : op1 allU (lcW (itW (.ret (.tup (rs.map .int)))) (fun _ => (.ret true)) fun one => (callM (L2' m_is_below) (consA (.ret one) (consA (.ret (.int n)) nilA)))) = .ret (.bl true) := by
    refine lc_true (us := rs.map .int) rfl (by rw [List.length_map]; omega) fun u m => ⟨rfl, ?_⟩
    obtain ⟨r, mr, rfl⟩ := List.mem_map.mp m
    exact below_eq (h.2 r mr).1 (h.2 r mr).2
  have e2 : m_are_rising (.tup (rs.map .int)) = .ret (.bl true) := rising_eq (by rw [List.length_map]; omega) (rise_ints h)
  have e3 : m_are_rising_below (.tup (rs.map .int)) (.int n) = .ret (.bl true) := by
    unfold m_are_rising_below
    rw [e1]
    show fnM (rtO (m_are_rising (.tup (rs.map .int)))) = _
    rw [e2]; rfl
  show fnM (rtO (m_are_rising_below (.tup (rs.map .int)) (.int n))) = _
  rw [e3]; rfl

theorem rise_len : ∀ (rs : List Int) (lo n : Int), rs.Pairwise (· < ·) → (∀ r ∈ rs, lo ≤ r ∧ r < n) → (rs.length : Int) ≤ max 0 (n - lo)
  | [], lo, n, _, _ => by simp; omega
  | r :: rs, lo, n, pw, h => by
    obtain ⟨p1, p2⟩ := List.pairwise_cons.mp pw
    have ih := rise_len rs (r + 1) n p2 fun x m => ⟨by have := p1 x m; omega, (h x (List.mem_cons_of_mem _ m)).2⟩
    have hr := h r List.mem_cons_self
    rw [List.length_cons]
    omega
theorem Rs.len {n : Int} {rs : List Int} (h : Rs n rs) (h0 : 0 ≤ n) : (rs.length : Int) ≤ n := by
  have := rise_len rs 0 n h.1 h.2
  omega
theorem ranks_eq {n : Int} {rk : List Int} (hl : (rk.length : Int) = n) (h1 : n ≤ 1000) (h : ∀ r ∈ rk, 0 ≤ r) : m_are_ranks (.int n) (.tup (rk.map .int)) = .ret (.bl true) := by
  have sz : (1000000 : Nat) ≤ sizeLine := by decide
  unfold m_are_ranks
  have e1 : op1 allU (lcW (itW (.ret (.tup (rk.map .int)))) (fun _ => (.ret true)) fun one => (andW (callM (L1 m_is_whole) (consA (.ret one) nilA)) (op2 geU (.ret one) (.ret (.int 0))))) = .ret (.bl true) := by
    refine lc_true (us := rk.map .int) rfl (by rw [List.length_map]; omega) fun u m => ⟨rfl, ?_⟩
    obtain ⟨r, mr, rfl⟩ := List.mem_map.mp m
    show M.o (some (U.bl (decide (0 ≤ r)))) = _
    rw [decide_eq_true (h r mr)]; rfl
  have e2 : op2 eqU (op1 lenU (.ret (.tup (rk.map .int)))) (.ret (.int n)) = .ret (.bl true) := by
    show M.o (eqU (.int ((rk.map U.int).length : Nat)) (.int n)) = _
    rw [eqU_int, List.length_map, decide_eq_true hl]; rfl
  rw [e1, e2]; rfl
theorem forO_nx {L : Type} {f : U → Unit → M (Out Unit Unit)} : ∀ {us : List U}, (∀ u ∈ us, f u () = nxO ()) → forO (L := L) f us () = nxO ()
  | [], _ => rfl
  | u :: us, h => by
    rw [forO, h u List.mem_cons_self]
    exact forO_nx fun v m => h v (List.mem_cons_of_mem _ m)
theorem neU_int (i j : Int) : neU (.int i) (.int j) = some (.bl (!decide (i = j))) := by
  show neD (.int i) (.int j) = _
  unfold neD
  rw [show pd (.int i) = some (.int i) from rfl, show pd (.int j) = some (.int j) from rfl]
  have h : ∀ i : Int, SeqAt.shaped (.int i) = true := fun i => by simp [SeqAt.shaped, PyData.canLay0, PyData.depth]
  simp only [h, and_self, if_true]
  simp only [PyData.eqv]
  rfl
theorem pairs_eq {n : Int} {ps : List (List Int × List Int)} (h0 : 0 ≤ n) (h1 : n ≤ 1000) (h : ∀ p ∈ ps, Rs n p.1 ∧ Rs n p.2) : m_are_pairs (.int n) (.tup (ps.map pairU)) = .ret (.bl true) := by
  unfold m_are_pairs
  have key : ∀ u ∈ ps.map pairU, (iteW (orT (notT (testW (op1 (isiU · "tuple") (.ret u)))) (orT (testW (op2 neU (op1 lenU (.ret u)) (.ret (.int 2)))) (notT (testW (op1 allU (lcW (itW (.ret u)) (fun _ => (.ret true)) fun part => (callM (L2' m_are_rooms) (consA (.ret (.int n)) (consA (.ret part) nilA))))))))) (rtO (.ret (.bl false))) (nxO ()) : M (Out Unit Unit)) = nxO () := by
    intro u m
    obtain ⟨p, mp, rfl⟩ := List.mem_map.mp m
    have hp := h p mp
    have l1 := hp.1.len h0
    have l2 := hp.2.len h0
    have e1 : op1 allU (lcW (itW (.ret (pairU p))) (fun _ => (.ret true)) fun part => (callM (L2' m_are_rooms) (consA (.ret (.int n)) (consA (.ret part) nilA)))) = .ret (.bl true) := by
      refine lc_true (us := [.tup (p.1.map .int), .tup (p.2.map .int)]) rfl (by decide : 2 ≤ sizeLine) fun u m => ⟨rfl, ?_⟩
      simp only [List.mem_cons, List.not_mem_nil, or_false] at m
      rcases m with rfl | rfl
      · exact rooms_eq hp.1 (by omega)
      · exact rooms_eq hp.2 (by omega)
    rw [e1]
    show iteW (orT (.ret false) (orT (testW (.o (neU (.int 2) (.int 2)))) (.ret false))) _ _ = _
    rw [neU_int]; rfl
  show fnM (seqO (S := Unit) (forO (L := Unit) _ (ps.map pairU) ()) fun _ => rtO (.ret (.bl true))) = _
  rw [forO_nx key]; rfl
theorem ways_eq {n L : Int} {W : List (List Int)} (hW : WOk n L W) (hl : W.length ≤ 1000000) : m_are_ways (.int L) (.int n) (.tup (W.map tupI)) = .ret (.bl true) := by
  unfold m_are_ways
  have e2 : m_are_rising (.tup (W.map tupI)) = .ret (.bl true) := by
    refine rising_eq (by rw [List.length_map]; exact hl) fun i a b ha hb => ?_
    rw [List.getElem?_map] at ha hb
    obtain ⟨x, ex, rfl⟩ := Option.map_eq_some_iff.mp ha
    obtain ⟨y, ey, rfl⟩ := Option.map_eq_some_iff.mp hb
    have hi := getElem?_lt ex
    have hj := getElem?_lt ey
    have := List.pairwise_iff_getElem.mp hW.2 i (i + 1) hi hj (by omega)
    rw [List.getElem?_eq_getElem hi] at ex
    rw [List.getElem?_eq_getElem hj] at ey
    cases ex; cases ey
    exact ltU_row this
  have key : ∀ u ∈ W.map tupI, (seqO (S := Unit) (iteW (orT (notT (testW (op1 (isiU · "tuple") (.ret u)))) (testW (op2 neU (op1 lenU (.ret u)) (.ret (.int 3))))) (rtO (.ret (.bl false))) (nxO ())) fun _ => (iteW (orT (notT (testW (callM (L2' m_is_below) (consA (op2 ixU (.ret u) (.ret (.int 0))) (consA (.ret (.int n)) nilA))))) (orT (notT (testW (callM (L2' m_is_below) (consA (op2 ixU (.ret u) (.ret (.int 1))) (consA (.ret (.int L)) nilA))))) (notT (testW (callM (L2' m_is_below) (consA (op2 ixU (.ret u) (.ret (.int 2))) (consA (.ret (.int n)) nilA))))))) (rtO (.ret (.bl false))) (nxO ())) : M (Out Unit Unit)) = nxO () := by
    intro u m
    obtain ⟨w, mw, rfl⟩ := List.mem_map.mp m
    obtain ⟨r, l, e, rfl, r0, r1, l0, l1, e0, e1⟩ := hW.1 w mw
    show seqO (S := Unit) (iteW (orT (.ret false) (testW (.o (neU (.int 3) (.int 3))))) _ _) (fun _ => iteW (orT (notT (testW (m_is_below (.int r) (.int n)))) (orT (notT (testW (m_is_below (.int l) (.int L)))) (notT (testW (m_is_below (.int e) (.int n)))))) _ _) = _
    rw [neU_int, below_eq r0 r1, below_eq l0 l1, below_eq e0 e1]; rfl
  show fnM (seqO (S := Unit) (forO (L := Unit) _ (W.map tupI) ()) fun _ => rtO (m_are_rising (.tup (W.map tupI)))) = _
  rw [forO_nx key, e2]; rfl


theorem fault_eq {n L s : Int} {W : List (List Int)} {kind : Str} {B : U} (l0 : 1 ≤ L) (l1 : L ≤ 4) (n0 : 1 ≤ n) (n1 : n ≤ 1000) (s0 : 0 ≤ s) (s1 : s < n) (hW : WOk n L W) (hl : W.length ≤ 1000000) (hB : ByOk n kind B) : m_fault_of (.int L) (.int n) (.int s) (.tup (W.map tupI)) (.str kind) B = .ret .non := by
  unfold m_fault_of
  have e1 : chainW leU leU (.ret (.int 1)) (.ret (.int L)) (.ret (.int 4)) = .ret (.bl true) := by
    show M.bind (M.o (boolU (.bl (decide (1 ≤ L))))) (fun k => if k = true then M.o (leU (.int L) (.int 4)) else .ret (.bl false)) = _
    rw [decide_eq_true l0]
    show M.o (some (U.bl (decide (L ≤ 4)))) = _
    rw [decide_eq_true l1]; rfl
  have e2 : op2 ltU (.ret (.int n)) (.ret (.int 1)) = .ret (.bl false) := by
    show M.o (some (U.bl (decide (n < 1)))) = _
    rw [decide_eq_false (by omega)]; rfl
  have e3 : callM (L2' m_is_below) (consA (.ret (.int s)) (consA (.ret (.int n)) nilA)) = .ret (.bl true) := below_eq s0 s1
  have e4 : callM (L3 m_are_ways) (consA (.ret (.int L)) (consA (.ret (.int n)) (consA (.ret (.tup (W.map tupI))) nilA))) = .ret (.bl true) := ways_eq hW hl
  rw [e1, e2, e3, e4]
  cases hB with
  | again h =>
    have e5 := rooms_eq h (by have := h.len (by omega); omega)
    show fnM (rtO (iteW (testW (m_are_rooms _ _)) _ _)) = _
    rw [e5]; rfl
  | last h =>
    have e5 := rooms_eq h (by have := h.len (by omega); omega)
    show fnM (rtO (iteW (testW (m_are_rooms _ _)) _ _)) = _
    rw [e5]; rfl
  | pairs l h =>
    have e5 := pairs_eq (by omega) n1 h
    show fnM (rtO (iteW (testW (m_are_pairs _ _)) _ _)) = _
    rw [e5]; rfl
  | ranks l h =>
    have e5 := ranks_eq l n1 h
    show fnM (rtO (iteW (testW (m_are_ranks _ _)) _ _)) = _
    rw [e5]; rfl

abbrev Dc : Type := List (Int × List Int)
def dKs (D : Dc) : List Key := D.map fun p => Sum.inl p.1
def dVs (D : Dc) : List U := D.map fun p => U.lst (p.2.map .int)
def dU (D : Dc) : U := .dct (dKs D) (dVs D)
def dAdd (l e : Int) : Dc → Dc
  | [] => [(l, [e])]
  | (k, xs) :: r => if k = l then (k, xs ++ [e]) :: r else (k, xs) :: dAdd l e r
def dGet (l : Int) : Dc → List Int
  | [] => []
  | (k, xs) :: r => if k = l then xs else dGet l r
theorem dGet_add (l l' e : Int) : ∀ D : Dc, dGet l (dAdd l' e D) = if l' = l then dGet l D ++ [e] else dGet l D
  | [] => by
    simp only [dAdd, dGet]
    split <;> simp
  | (k, xs) :: r => by
    simp only [dAdd]
    by_cases h : k = l'
    · rw [if_pos h]
      simp only [dGet]
      by_cases h2 : k = l
      · rw [if_pos h2, if_pos h2, if_pos (by omega)]
      · rw [if_neg h2, if_neg h2, if_neg (by omega)]
    · rw [if_neg h]
      simp only [dGet]
      by_cases h2 : k = l
      · rw [if_pos h2, if_pos h2, if_neg (by omega)]
      · rw [if_neg h2, if_neg h2, dGet_add l l' e r]
theorem idx_none {l e : Int} : ∀ {D : Dc}, idxK (Sum.inl l : Key) (dKs D) = none → dAdd l e D = D ++ [(l, [e])] ∧ dGet l D = []
  | [], _ => ⟨rfl, rfl⟩
  | (k, xs) :: r, h => by
    by_cases hk : k = l
    · subst hk
      simp [dKs, idxK] at h
    · have hne : ¬ (Sum.inl k : Key) = Sum.inl l := fun z => hk (Sum.inl.inj z)
      simp only [dKs, List.map_cons, idxK, if_neg hne, Option.map_eq_none_iff] at h
      obtain ⟨h1, h2⟩ := idx_none (e := e) (D := r) h
      simp only [dAdd, dGet, if_neg hk, h1, h2]
      exact ⟨rfl, trivial⟩
theorem idx_some {l e : Int} : ∀ {D : Dc} {j : Nat}, idxK (Sum.inl l : Key) (dKs D) = some j → (dVs D)[j]? = some (.lst ((dGet l D).map .int)) ∧ dKs (dAdd l e D) = dKs D ∧ dVs (dAdd l e D) = (dVs D).set j (.lst ((dGet l D ++ [e]).map .int))
  | [], _, h => by cases h
  | (k, xs) :: r, j, h => by
    by_cases hk : k = l
    · subst hk
      simp only [dKs, List.map_cons, idxK, if_true] at h
      cases h
      simp only [dAdd, dGet, if_true]
      exact ⟨rfl, rfl, rfl⟩
    · have hne : ¬ (Sum.inl k : Key) = Sum.inl l := fun z => hk (Sum.inl.inj z)
      simp only [dKs, List.map_cons, idxK, if_neg hne, Option.map_eq_some_iff] at h
      obtain ⟨i, h1, rfl⟩ := h
      obtain ⟨q1, q2, q3⟩ := idx_some (e := e) (D := r) h1
      simp only [dAdd, dGet, if_neg hk]
      refine ⟨by simpa [dVs] using q1, ?_, ?_⟩
      · show Sum.inl k :: dKs (dAdd l e r) = Sum.inl k :: dKs r
        rw [q2]
      · show U.lst (xs.map .int) :: dVs (dAdd l e r) = _
        rw [q3]; rfl
theorem get_eq (l : Int) (D : Dc) : getD2 (dU D) (.int l) (.lst []) = some (.lst ((dGet l D).map .int)) := by
  unfold getD2 dU
  simp only [getU, keyU]
  cases h : idxK (Sum.inl l : Key) (dKs D) with
  | none => rw [(idx_none (e := 0) h).2]; rfl
  | some j => simp only [(idx_some (e := 0) h).1]; rfl
theorem sd_eq {l e : Int} {D : Dc} (h1 : D.length < 100000) (h2 : (dGet l D).length < 100000) : sdAppU (dU D) (.int l) (.int e) = some (dU (dAdd l e D)) := by
  have sz : (1000000 : Nat) ≤ sizeLine := by decide
  unfold dU
  simp only [sdAppU, keyU]
  rw [if_pos ⟨by simp only [dKs, List.length_map]; omega, rfl⟩]
  cases h : idxK (Sum.inl l : Key) (dKs D) with
  | none =>
    simp only
    rw [(idx_none (e := e) h).1]
    simp [dKs, dVs]
  | some j =>
    obtain ⟨q1, q2, q3⟩ := idx_some (e := e) h
    simp only [q1]
    rw [if_pos ⟨by rw [List.length_map]; omega, leaf_ints _⟩, q2, q3]
    simp

def oneEnd (r l : Int) : List Int → Option Int
  | [r', l', e] => if r' = r ∧ l' = l then some e else none
  | _ => none
def endsOf (W : List (List Int)) (r l : Int) : List Int := W.filterMap (oneEnd r l)
def hNames : List Str := ["letters", "rooms", "start", "ways", "kind", "by", "goals"]
def hallObj (L n s : Int) (W : List (List Int)) (kind : Str) (B : U) (G : List Dc) : U := .obj "Hall" hNames [.int L, .int n, .int s, .tup (W.map tupI), .str kind, B, .lst (G.map dU)]
structure GOk (n : Int) (W : List (List Int)) (G : List Dc) : Prop where
  len : (G.length : Int) = n
  at_ : ∀ (r : Nat) (D : Dc), G[r]? = some D → D.length ≤ W.length ∧ ∀ l : Int, dGet l D = endsOf W r l
theorem ends_len (W : List (List Int)) (r l : Int) : (endsOf W r l).length ≤ W.length := List.length_filterMap_le _ _
theorem ends_snoc (W : List (List Int)) (a b e r l : Int) : endsOf (W ++ [[a, b, e]]) r l = if a = r ∧ b = l then endsOf W r l ++ [e] else endsOf W r l := by
  unfold endsOf
  rw [List.filterMap_append]
  by_cases h : a = r ∧ b = l
  · simp [oneEnd, h]
  · simp [oneEnd, h]
theorem dAdd_len (l e : Int) : ∀ D : Dc, (dAdd l e D).length ≤ D.length + 1
  | [] => by simp [dAdd]
  | (k, xs) :: r => by
    simp only [dAdd]
    split
    · simp
    · have := dAdd_len l e r
      simp only [List.length_cons]
      omega
theorem gok_snoc {n a b e : Int} {W : List (List Int)} {G : List Dc} {D : Dc} (h : GOk n W G) (ha : 0 ≤ a) (hD : G[a.toNat]? = some D) : GOk n (W ++ [[a, b, e]]) (G.set a.toNat (dAdd b e D)) := by
  refine ⟨by rw [List.length_set]; exact h.len, fun r D' e' => ?_⟩
  rw [List.length_append]
  by_cases hr : a.toNat = r
  · subst hr
    rw [List.getElem?_set_self (getElem?_lt hD)] at e'
    cases e'
    obtain ⟨h1, h2⟩ := h.at_ _ D hD
    refine ⟨by have := dAdd_len b e D; simp; omega, fun l => ?_⟩
    rw [dGet_add, ends_snoc, h2 l]
    have : ((a.toNat : Nat) : Int) = a := by omega
    rw [this]
    by_cases hb : b = l
    · rw [if_pos hb, if_pos ⟨rfl, hb⟩]
    · rw [if_neg hb, if_neg fun z => hb z.2]
  · rw [List.getElem?_set_ne hr] at e'
    obtain ⟨h1, h2⟩ := h.at_ r D' e'
    refine ⟨by omega, fun l => ?_⟩
    rw [ends_snoc, if_neg (by omega), h2 l]
theorem ixC_at {i j : Nat} {us : List U} {u : U} {f : U → U} (h : us[j]? = some u) : ixC (i, (.lst us, f)) (.int (j : Nat)) = some (i, (u, fun x => f (.lst (us.set j x)))) := by
  have hl := getElem?_lt h
  simp only [ixC, ixH]
  rw [show ixN us.length ((j : Nat) : Int) = some j from by unfold ixN; rw [if_pos (by omega), if_pos (by omega)]; rfl]
  simp only [h]
  rfl
theorem by_leaf {n : Int} {kind : Str} {B : U} (h : ByOk n kind B) : leafO B = some B := by cases h <;> rfl

theorem nlA_map {α : Type} {f : α → U} (h : ∀ a, nlU (f a) = true) : ∀ l : List α, nlA (l.map f) = true
  | [] => rfl
  | a :: l => by simp [nlA, h a, nlA_map h l]
theorem nl_ints (l : List Int) : nlA (l.map U.int) = true := nlA_map (fun _ => rfl) l
theorem nl_by {n : Int} {kind : Str} {B : U} (h : ByOk n kind B) : nlU B = true := by
  cases h with
  | again => exact nl_ints _
  | last => exact nl_ints _
  | ranks => exact nl_ints _
  | pairs => exact nlA_map (fun p => by simp [pairU, nlU, nlA, nl_ints]) _
theorem nl_hall {L n s : Int} {W : List (List Int)} {kind : Str} {B : U} {G : List Dc} (hB : ByOk n kind B) : nlU (hallObj L n s W kind B G) = true := by
  have h1 : nlA (W.map tupI) = true := nlA_map (f := tupI) (fun w => show nlA (w.map U.int) = true from nl_ints w) W
  have h2 : nlA (G.map dU) = true := nlA_map (f := dU) (fun D => show nlA (dVs D) = true from nlA_map (f := fun p : Int × List Int => U.lst (p.2.map .int)) (fun p => show nlA (p.2.map U.int) = true from nl_ints p.2) D) G
  simp [hallObj, nlU, nlA, h1, h2, nl_by hB]

theorem loc_at (ms : Sto) (x : U) : locM (.loc ms.length) (ms ++ [x]) = some (.ok (ms.length, (x, id)), ms ++ [x]) := by
  have : (ms ++ [x])[ms.length]? = some x := by simp
  unfold locM
  simp only [this]
theorem put_at (ms : Sto) (x y : U) : putC ms.length y (ms ++ [x]) = some (.ok (), ms ++ [y]) := by
  unfold putC
  rw [if_pos (by simp)]
  simp
theorem wp_loc {ms : Sto} {x : U} {Q : Cl → Sto → Prop} (q : Q (ms.length, (x, id)) (ms ++ [x])) : Wp (locM (.loc ms.length)) (ms ++ [x]) Q := .eq (loc_at ms x) q
theorem wp_put {ms : Sto} {x y : U} {Q : Unit → Sto → Prop} (q : Q () (ms ++ [y])) : Wp (putC ms.length y) (ms ++ [x]) Q := .eq (put_at ms x y) q
theorem init_ok {ms : Sto} {n L s : Int} {W : List (List Int)} {kind : Str} {B : U} (l0 : 1 ≤ L) (l1 : L ≤ 4) (n0 : 1 ≤ n) (n1 : n ≤ 1000) (s0 : 0 ≤ s) (s1 : s < n) (hW : WOk n L W) (hl : W.length < 50000) (hB : ByOk n kind B) :
    Wp (m_Hall___init__ (.loc ms.length) (.int L) (.int n) (.int s) (.tup (W.map tupI)) (.str kind) B) (ms ++ [.obj "Hall" [] []]) fun u st => ∃ G : List Dc, u = .non ∧ st = ms ++ [hallObj L n s W kind B G] ∧ GOk n W G := by
  have sz : (1000000 : Nat) ≤ sizeLine := by decide
  unfold m_Hall___init__
  refine .fn (.bind (wp_ret (w := callM (L6 m_fault_of) _) (fault_eq l0 l1 n0 n1 s0 s1 hW (by omega) hB) (.seq (.ite (.test (.bind (.ret (.ret ⟨_, rfl, ?_⟩))))))))
  show Wp (nxO ()) _ _
  refine .nx ?_
  refine .bind (.bind (.ret (.o rfl (.bind (wp_loc (.bind (.o rfl (.bind (wp_put ?_)))))))))
  refine .bind (.bind (.ret (.o rfl (.bind (wp_loc (.bind (.o rfl (.bind (wp_put ?_)))))))))
  refine .bind (.bind (.ret (.o rfl (.bind (wp_loc (.bind (.o rfl (.bind (wp_put ?_)))))))))
  refine .bind (.bind (.ret (.o rfl (.bind (wp_loc (.bind (.o rfl (.bind (wp_put ?_)))))))))
  refine .bind (.bind (.ret (.o rfl (.bind (wp_loc (.bind (.o rfl (.bind (wp_put ?_)))))))))
  refine .bind (.bind (.ret (.o (by_leaf hB) (.bind (wp_loc (.bind (.o rfl (.bind (wp_put ?_)))))))))
  refine .bind (.lc (wp_rng (by omega) (by omega) (wp_ret (comp_map (f := fun _ => .dct [] []) fun u m => ⟨rfl, rfl⟩) ⟨by rw [List.length_map, List.length_map, List.length_range]; omega, ?_⟩)))
  rw [show List.map (fun _ => U.dct [] []) ((List.range n.toNat).map fun i => U.int (i : Nat)) = (List.replicate n.toNat ([] : Dc)).map dU from by rw [List.map_const', List.map_replicate, List.length_map, List.length_range]; rfl]
  refine .bind (wp_loc (.bind (.o rfl (.bind (wp_put ?_)))))
  refine .seq (.bind (.eq (a := W.map tupI) (s := ms ++ [hallObj L n s W kind B (List.replicate n.toNat [])]) rfl (Wp.for (fun i _ st => ∃ G : List Dc, st = ms ++ [hallObj L n s W kind B G] ∧ GOk n (W.take i) G) ⟨_, rfl, ?_⟩ ?_ ?_)))
  · refine ⟨by rw [List.length_replicate]; omega, fun r D e => ?_⟩
    have : D = [] := by
      have := List.mem_of_getElem? e
      exact (List.mem_replicate.mp this).2
    subst this
    exact ⟨by simp, fun l => rfl⟩
  · rintro i u _ st e ⟨G, rfl, hG⟩
    rw [List.getElem?_map] at e
    obtain ⟨w, ew, rfl⟩ := Option.map_eq_some_iff.mp e
    obtain ⟨a, b, c, rfl, a0, a1, b0, b1, c0, c1⟩ := hW.1 w (List.mem_of_getElem? ew)
    have hi := getElem?_lt ew
    have hlen := hG.len
    have ha : a.toNat < G.length := by omega
    have hD : G[a.toNat]? = some G[a.toNat] := List.getElem?_eq_getElem ha
    generalize G[a.toNat] = D at hD
    obtain ⟨d1, d2⟩ := hG.at_ _ D hD
    have d3 := ends_len (W.take i) a.toNat b
    rw [List.length_take] at d1 d3
    have ea : ((a.toNat : Nat) : Int) = a := by omega
    show Wp (M.bind _ _) _ _
    refine Wp.bind (Wp.bind (Wp.bind (Wp.bind (Wp.ret (wp_loc (Wp.o (a := (ms.length, (U.lst (G.map dU), fun x => U.obj "Hall" hNames [.int L, .int n, .int s, .tup (W.map tupI), .str kind, B, x]))) rfl ?_))))))
    refine Wp.bind (Wp.ret (Wp.o (a := (ms.length, (dU D, fun x => .obj "Hall" hNames [.int L, .int n, .int s, .tup (W.map tupI), .str kind, B, .lst ((G.map dU).set a.toNat x)]))) ?_ ?_))
    rotate_left
    refine Wp.bind (Wp.ret (Wp.bind (Wp.o (sd_eq (by omega) (by rw [d2]; omega)) (Wp.bind (wp_put (Wp.nx ⟨G.set a.toNat (dAdd b c D), ?_, ?_⟩))))))
    rotate_right
    · rw [← ea, ixC_at (by rw [List.getElem?_map, hD]; rfl), ea]
    · unfold hallObj
      rw [List.map_set]
    · rw [List.take_add_one, ew]
      exact gok_snoc hG a0 hD
  · rintro _ st ⟨G, rfl, hG⟩
    rw [List.length_map, List.take_length] at hG
    exact .nx ⟨G, rfl, rfl, hG⟩
theorem mk_at {st : Sto} {n L s : Int} {W : List (List Int)} {kind : Str} {B : U} (l0 : 1 ≤ L) (l1 : L ≤ 4) (n0 : 1 ≤ n) (n1 : n ≤ 1000) (s0 : 0 ≤ s) (s1 : s < n) (hW : WOk n L W) (hl : W.length < 50000) (hB : ByOk n kind B) {wa : M (List U)} {Q : U → Sto → Prop}
    (ha : Wp wa st fun us s' => us = [.int L, .int n, .int s, .tup (W.map tupI), .str kind, B] ∧ ∀ G : List Dc, GOk n W G → Q (hallObj L n s W kind B G) s') : Wp (mkM "Hall" (L7 m_Hall___init__) wa) st Q := by
  obtain ⟨us, s', e1, rfl, q⟩ := ha
  have hl' : (opq s').length = s'.length := by unfold opq; rw [List.length_map, List.length_range]
  obtain ⟨u, st', e, G, rfl, rfl, hG⟩ := init_ok (ms := opq s') l0 l1 n0 n1 s0 s1 hW hl hB
  refine ⟨_, s', ?_, q G hG⟩
  refine Eq.trans (M.bind_of e1) ?_
  rw [hl'] at e
  have hx : (opq s' ++ [hallObj L n s W kind B G])[s'.length]? = some (hallObj L n s W kind B G) := by rw [← hl']; simp
  show (match m_Hall___init__ (.loc s'.length) (.int L) (.int n) (.int s) (.tup (W.map tupI)) (.str kind) B (opq s' ++ [.obj "Hall" [] []]) with
      | some (.ok .non, st') => match st'[s'.length]? with
        | some u => if nlU u = true then some (Res.ok u, s') else none
        | none => none
      | _ => none) = _
  rw [e]
  simp only [hx]
  rw [if_pos (nl_hall hB)]

def Bx (ms : Sto) (n : Nat) (st : Sto) : Prop := ∃ a b c : Int, st = ms ++ [.lst [.int a, .int b, .int c]] ∧ 0 ≤ b ∧ b < 2305843009213693951 ∧ 0 ≤ c ∧ c ≤ n
theorem Bx.up {ms : Sto} {n m : Nat} {st : Sto} (h : Bx ms n st) (l : n ≤ m) : Bx ms m st := by
  obtain ⟨a, b, c, e, h1, h2, h3, h4⟩ := h
  exact ⟨a, b, c, e, h1, h2, h3, by omega⟩
section
variable {ms : Sto} {a b c : Int}
abbrev bxS (ms : Sto) (a b c : Int) : Sto := ms ++ [.lst [.int a, .int b, .int c]]
abbrev ixB (ms : Sto) (i : Int) : M U := .bind (.bind (.bind (.ret (.loc ms.length)) locM) fun c => .bind (.ret (.int i)) fun n => .o (ixC c n)) fun c => .o (valC c)
theorem wp_b0 {Q : U → Sto → Prop} (q : Q (.int a) (bxS ms a b c)) : Wp (ixB ms 0) (bxS ms a b c) Q := .bind (.bind (.bind (.ret (wp_loc (.bind (.ret (.o rfl (.o rfl q))))))))
theorem wp_b1 {Q : U → Sto → Prop} (q : Q (.int b) (bxS ms a b c)) : Wp (ixB ms 1) (bxS ms a b c) Q := .bind (.bind (.bind (.ret (wp_loc (.bind (.ret (.o rfl (.o rfl q))))))))
theorem wp_b2 {Q : U → Sto → Prop} (q : Q (.int c) (bxS ms a b c)) : Wp (ixB ms 2) (bxS ms a b c) Q := .bind (.bind (.bind (.ret (wp_loc (.bind (.ret (.o rfl (.o rfl q))))))))
end
theorem take_ok {ms : Sto} {n : Nat} {m : Int} {st : Sto} (h : Bx ms n st) (hn : n < 1000000000) (h0 : 0 < m) (h1 : m < 1000000000) : Wp (m__law_take (.loc ms.length) (.int m)) st fun u s => ∃ k : Int, u = .int k ∧ 0 ≤ k ∧ k < m ∧ Bx ms (n + 1) s := by
  obtain ⟨a, b, c, rfl, b0, b1, c0, c1⟩ := h
  unfold m__law_take
  refine .fn (.seq (.ite (.test (.op2 (wp_b0 (.ret ⟨_, rfl, _, rfl, ?_⟩))))))
  by_cases ha : a > 0
  · rw [decide_eq_true ha]
    simp only [if_true]
    refine .bind (.op2 (wp_b0 (.ret ⟨_, mod_at (by omega), ?_⟩)))
    refine .bind (.op2 (wp_b0 (.ret ⟨_, fdiv_at (by omega) (by omega), ?_⟩)))
    refine .bind (.bind (.ret (wp_loc (.bind (.ret (.bind (.o rfl (.bind (wp_put (.rt (.ret ?_))))))))))) 
    exact ⟨_, rfl, Int.fmod_nonneg_of_pos _ h0, Int.fmod_lt_of_pos _ h0, _, b, c, rfl, b0, b1, c0, by omega⟩
  · rw [decide_eq_false ha]
    simp only [Bool.false_eq_true, if_false]
    refine .nx ?_
    refine .bind (.op2 (wp_b2 (.ret ⟨.int (c + 1), rfl, ?_⟩)))
    refine .bind (.bind (.ret (wp_loc (.bind (.ret (.bind (.o rfl (.bind (wp_put ?_))))))))) 
    show Wp _ (bxS ms a b (c + 1)) _
    generalize ec : c + 1 = d
    have m1 : L2.CMul 65537 d := .inl (by omega)
    have m2 : L2.CMul (65537 * d) d := .inr (by omega)
    have m3 : L2.CMul (b + 65537 * d * d + 11) 48271 := .inr (by omega)
    refine .bind (.op2 (.op2 (.op2 (.op2 (wp_b1 (.op2 (.op2 (.ret (wp_b2 ⟨_, mul_at m1, wp_b2 ⟨_, mul_at m2, ⟨_, rfl, .ret ⟨_, rfl, .ret ⟨_, mul_at m3, .ret ⟨_, mod_at (by decide), ?_⟩⟩⟩⟩⟩⟩)))))))))
    generalize ex : ((b + 65537 * d * d + 11) * 48271).fmod 2305843009213693921 = x
    have x0 : 0 ≤ x := by rw [← ex]; exact Int.fmod_nonneg_of_pos _ (by decide)
    have x1 : x < 2305843009213693921 := by rw [← ex]; exact Int.fmod_lt_of_pos _ (by decide)
    have m4 : L2.CMul 99991 d := .inl (by omega)
    have m5 : L2.CMul x (x.fmod 1000003 + 99991 * d) := .inl (by omega)
    refine .bind (.op2 (.op2 (.ret (.op2 (.op2 (.ret (.ret ⟨_, mod_at (by decide), .op2 (.ret (wp_b2 ⟨_, mul_at m4, ⟨_, rfl, ⟨_, mul_at m5, .ret ⟨_, mod_at (by decide), ?_⟩⟩⟩⟩))⟩)))))))
    refine .rt (.op2 (.op2 (.op2 (.ret (.ret ⟨_, fdiv_at (by decide) (by decide), .op2 (.ret (.ret ⟨_, fdiv_at (by decide) (by decide), ⟨_, rfl, .ret ⟨_, mod_at (by omega), ?_⟩⟩⟩))⟩)))))
    exact ⟨_, rfl, Int.fmod_nonneg_of_pos _ h0, Int.fmod_lt_of_pos _ h0, a, b, d, rfl, b0, b1, by omega, by omega⟩
theorem wp_take {ms : Sto} {n : Nat} {m : Int} {st : Sto} {Q : U → Sto → Prop} (h : Bx ms n st) (hn : n < 1000000000) (h0 : 0 < m) (h1 : m < 1000000000) (k : ∀ (k : Int) (s : Sto), 0 ≤ k → k < m → Bx ms (n + 1) s → Q (.int k) s) : Wp (callM (L2' m__law_take) (consA (.ret (.loc ms.length)) (consA (.ret (.int m)) nilA))) st Q :=
  .call (.consA (.ret (.consA (.ret (.nilA ((take_ok h hn h0 h1).mono fun _ s ⟨a, e, a0, a1, hs⟩ => e ▸ k a s a0 a1 hs))))))

theorem ite_b {A B : Prop} (b : Bool) (h1 : A) (h2 : B) : if b = true then A else B := by
  cases b
  · exact h2
  · exact h1
theorem tk {ms : Sto} {n : Nat} {m : Int} {st : Sto} {Q : U → Sto → Prop} (h : Bx ms n st) (hn : n < 1000000000) (h0 : 0 < m) (h1 : m < 1000000000) (k : ∀ (k : Int) (s : Sto), 0 ≤ k → k < m → Bx ms (n + 1) s → Q (.int k) s) : Wp (m__law_take (.loc ms.length) (.int m)) st Q :=
  (take_ok h hn h0 h1).mono fun _ s ⟨a, e, a0, a1, hs⟩ => e ▸ k a s a0 a1 hs
theorem box_ok {ms : Sto} {ns : List Int} {k : Nat} (hl : ns.length ≤ 63) (hk : k ≤ 63) : Wp (m__law_box (.frl (ns.map .int)) (.int (k : Nat))) ms fun u st => u = .loc ms.length ∧ Bx ms 0 st := by
  unfold m__law_box
  refine .fn (.bind (Wp.mono (Q := fun u s => s = ms ∧ ∃ c : Int, u = .int c) ?_ ?_))
  · refine .ite (.test (.op2 (.ret (.op1 (.ret ⟨_, rfl, _, rfl, _, rfl, ?_⟩)))))
    by_cases h : (k : Int) < ((ns.map U.int).length : Nat)
    · rw [decide_eq_true h]
      simp only [if_true]
      have h' : k < ns.length := by rw [List.length_map] at h; omega
      refine .op2 (.ret (.ret ⟨U.int ns[k], ?_, rfl, _, rfl⟩))
      show atI (ns.map U.int) _ = _
      unfold atI ixN
      rw [if_pos (by omega), if_pos (by rw [List.length_map]; omega)]
      simp [h']
    · rw [decide_eq_false h]
      exact .ret ⟨rfl, 0, rfl⟩
  · rintro _ ms ⟨rfl, c, rfl⟩
    have m1 : L2.CMul 7919 (k : Int) := .inl (by omega)
    have m2 : L2.CMul (7919 * (k : Int)) k := .inr (by omega)
    have m3 : L2.CMul (c.fmod 2305843009213693951 + 7919 * (k : Int) * k + 3) 48271 := .inr (by omega)
    refine .bind (.op2 (.op2 (.op2 (.op2 (.op2 (.ret (.ret ⟨_, mod_at (by decide), .op2 (.op2 (.ret (.ret ⟨_, mul_at m1, .ret ⟨_, mul_at m2, ⟨_, rfl, .ret ⟨_, rfl, .ret ⟨_, mul_at m3, .ret ⟨_, mod_at (by decide), ?_⟩⟩⟩⟩⟩⟩)))⟩)))))))
    refine .rt (.bind (.lst (.consA (.bind (Wp.mono (Q := fun u s => s = ms ∧ ∃ c : Int, u = .int c) ?_ ?_)))))
    · refine .ite (.test (.op2 (.op1 (.ret ⟨_, rfl, .op2 (.ret (.ret ⟨_, pow_at (i := 10) (j := 18) ⟨by decide, by decide, by decide⟩, _, rfl, _, rfl, ?_⟩))⟩))))
      exact ite_b _ (Wp.op1 (.ret ⟨_, rfl, rfl, _, rfl⟩)) (Wp.ret ⟨rfl, 0, rfl⟩)
    · rintro _ ms ⟨rfl, c', rfl⟩
      refine .o rfl (.consA (.bind (.ret (.o rfl (.consA (.bind (.ret (.o rfl (.nilA ⟨(by decide : 3 ≤ sizeLine), .bind (.o rfl ⟨_, _, rfl, rfl, c', _, 0, rfl, ?_, ?_, by decide, by decide⟩)⟩)))))))))
      · exact Int.fmod_nonneg_of_pos _ (by decide)
      · exact Int.lt_trans (Int.fmod_lt_of_pos _ (by decide)) (by decide)
theorem flt_ok {ms : Sto} {n : Nat} {r : Int} {st : Sto} {wt : U → M Bool} {we : U → M U} {f : Int → U} (h : Bx ms n st) (r0 : 0 ≤ r) (r1 : r ≤ 1000) (he : ∀ i : Int, we (.int i) = .ret (f i)) (ht : ∀ (i : Nat) (m : Nat) (st : Sto), (i : Int) < r → m ≤ n + i → Bx ms m st → Wp (wt (.int (i : Nat))) st fun b s => Bx ms (m + 1) s) {Q : U → Sto → Prop}
    (k : ∀ (rs : List Int) (s : Sto), Rs r rs → rs.length ≤ r.toNat → Bx ms (n + r.toNat) s → Q (.lst (rs.map f)) s) : Wp (lcW (rng1W (.ret (.int r))) wt we) st Q := by
  have sz : (100000 : Nat) ≤ sizeLine := by decide
  refine .lc (wp_rng r0 (by omega) (vs_compN (d := f) (fun i rs st => rs.Pairwise (· < ·) ∧ (∀ x ∈ rs, 0 ≤ x ∧ x < (i : Int) ∧ x < r) ∧ rs.length ≤ i ∧ Bx ms (n + i) st) ⟨.nil, by simp, Nat.le_refl _, h⟩ ?_ ?_))
  · rintro i rs st hi ⟨pw, hb, hl, hd⟩
    refine (ht i _ st (by omega) (Nat.le_refl _) hd).mono fun b s hs => ?_
    cases b with
    | true =>
      show Wp _ _ _
      rw [he]
      refine .ret ⟨i, rfl, ?_, ?_, by simpa using hl, hs⟩
      · rw [List.pairwise_append]
        exact ⟨pw, List.pairwise_singleton _ _, fun a ha b hb' => by rw [List.mem_singleton.mp hb']; exact (hb a ha).2.1⟩
      · intro x m
        rcases List.mem_append.mp m with m | m
        · have := hb x m; omega
        · rw [List.mem_singleton.mp m]; omega
    | false => exact ⟨pw, fun x m => by have := hb x m; omega, by omega, hs⟩
  · rintro rs st ⟨pw, hb, hl, hd⟩
    exact ⟨by rw [List.length_map]; omega, k rs st ⟨pw, fun x m => ⟨(hb x m).1, (hb x m).2.2⟩⟩ hl hd⟩
theorem draws_ok {ms : Sto} {n : Nat} {r m : Int} {st : Sto} (h : Bx ms n st) (hn : n < 100000000) (r0 : 0 ≤ r) (r1 : r ≤ 1000) (m0 : 0 < m) (m1 : m < 1000) {Q : U → Sto → Prop}
    (k : ∀ (rs : List Int) (s : Sto), (rs.length : Int) = r → (∀ x ∈ rs, 0 ≤ x ∧ x < m) → Bx ms (n + r.toNat) s → Q (.lst (rs.map .int)) s) : Wp (lcW (rng1W (.ret (.int r))) (fun _ => (.ret true)) fun _ => (callM (L2' m__law_take) (consA (.ret (.loc ms.length)) (consA (.ret (.int m)) nilA)))) st Q := by
  have sz : (100000 : Nat) ≤ sizeLine := by decide
  refine .lc (wp_rng r0 (by omega) (vs_compN (d := U.int) (fun i rs st => rs.length = i ∧ (∀ x ∈ rs, 0 ≤ x ∧ x < m) ∧ Bx ms (n + i) st) ⟨rfl, by simp, h⟩ ?_ ?_))
  · rintro i rs st hi ⟨hl, hb, hd⟩
    refine .ret ?_
    show Wp _ _ _
    refine wp_take hd (by omega) m0 (by omega) fun v s v0 v1 hs => ⟨v, rfl, by simp [hl], fun x mx => ?_, hs⟩
    rcases List.mem_append.mp mx with mx | mx
    · exact hb x mx
    · rw [List.mem_singleton.mp mx]; exact ⟨v0, v1⟩
  · rintro rs st ⟨hl, hb, hd⟩
    exact ⟨by rw [List.length_map]; omega, k rs st (by omega) hb hd⟩

theorem kind_by_ok {ms : Sto} {n : Nat} {r : Int} {st : Sto} (h : Bx ms n st) (hn : n < 10000000) (r0 : 1 ≤ r) (r1 : r ≤ 20) : Wp (m__law_kind_by (.loc ms.length) (.int r)) st fun u s => ∃ (kind : Str) (B : U), u = .tup [.str kind, B] ∧ U.str kind ∈ kinds4 ∧ ByOk r kind B ∧ Bx ms (n + 100) s := by
  have sz : (100000 : Nat) ≤ sizeLine := by decide
  unfold m__law_kind_by
  refine .fn (.bind (wp_take h (by omega) (by decide) (by decide) fun w s w0 w1 hs => .bind (.lst (.nilA ⟨by decide, ?_⟩))))
  show Wp _ _ _
  refine .seq (.ite (.test (.op2 (.ret (.ret ⟨_, rfl, _, rfl, ?_⟩)))))
  by_cases hw : w < 2
  · rw [decide_eq_true hw]
    simp only [if_true]
    have key : ∀ kind : Str, (U.str kind = .str "again" ∨ U.str kind = .str "at last") → ixU (.lst [.str "again", .str "at last"]) (.int w) = some (.str kind) → Wp (rtO (tupW (consA (op2 ixU (lstW (consA (.ret (.str "again")) (consA (.ret (.str "at last")) nilA))) (.ret (.int w))) (consA (op1 tupleU (lcW (rng1W (.ret (.int r))) (fun room_6 => (testW (op2 eqU (callM (L2' m__law_take) (consA (.ret (.loc ms.length)) (consA (.ret (.int 2)) nilA))) (.ret (.int 0))))) fun room_6 => (.ret room_6))) nilA))) : M (Out Unit Unit)) s fun o s => ∃ (kind : Str) (B : U), o = .rt (.tup [.str kind, B]) ∧ U.str kind ∈ kinds4 ∧ ByOk r kind B ∧ Bx ms (n + 100) s := fun kind hk he => by
      refine vs_rt (vs_tup (vs_consA ?_))
      refine vs_op2 (vs_lst (vs_consA (vs_ret (vs_consA (vs_ret (vs_nilA ⟨lit_le rfl, vs_ret (wo_eq he ?_)⟩))))))
      refine vs_consA (vs_op1 (flt_ok (f := U.int) hs (by omega) (by omega) (fun i => rfl) ?_ fun rs s hr hl hs => ?_))
      rotate_left
      · refine wo_tuple_l (vs_nilA ⟨lit_le rfl, kind, _, rfl, ?_, ?_, hs.up (by omega)⟩)
        · rcases hk with e | e <;> (rw [e]; simp [kinds4])
        · rcases hk with e | e <;> cases e
          · exact .again hr
          · exact .last hr
      · intro i m st hi hm hb
        exact .test (.op2 (wp_take hb (by omega) (by decide) (by decide) fun k s _ _ hs => .ret ⟨_, eqU_int k 0, _, rfl, hs⟩))
    have w2 : w = 0 ∨ w = 1 := by omega
    rcases w2 with rfl | rfl
    · refine (key "again" (.inl rfl) rfl).mono ?_
      rintro _ s ⟨kind, B, rfl, q⟩
      exact ⟨kind, B, rfl, q⟩
    · refine (key "at last" (.inr rfl) rfl).mono ?_
      rintro _ s ⟨kind, B, rfl, q⟩
      exact ⟨kind, B, rfl, q⟩
  · rw [decide_eq_false hw]
    simp only [Bool.false_eq_true, if_false]
    refine .nx (.seq (.ite (.test (.op2 (.ret (.ret ⟨_, eqU_int w 3, _, rfl, ?_⟩))))))
    by_cases h3 : w = 3
    · rw [decide_eq_true h3]
      simp only [if_true]
      refine vs_rt (vs_tup (vs_consA (vs_ret (vs_consA (vs_op1 (draws_ok hs (by omega) (by omega) (by omega) (by decide) (by decide) fun rs s hl hb hs => ?_))))))
      exact wo_tuple_l (vs_nilA ⟨lit_le rfl, "ranks", _, rfl, by simp [kinds4], .ranks hl fun x m => (hb x m).1, hs.up (by omega)⟩)
    · rw [decide_eq_false h3]
      simp only [Bool.false_eq_true, if_false]
      refine .nx (.seq (.bind (.bind (wp_take hs (by omega) (by decide) (by decide) fun t s t0 t1 hs => .o (rng_at t0 (by omega)) ?_))))
      refine vs_forN (e := fun ps : List (List Int × List Int) => U.lst (ps.map pairU)) (fun i ps st => ps.length = i ∧ (∀ p ∈ ps, Rs r p.1 ∧ Rs r p.2) ∧ Bx ms (n + 2 + i * 20) st) (t0 := []) rfl ⟨rfl, by simp, hs⟩ ?_ ?_
      · rintro i ps st hi ⟨hl, hp, hb⟩
        refine .bind (draws_ok hb (by omega) (by omega) (by omega) (by decide) (by decide) fun sg s hsl hsb hs => ?_)
        have sel : ∀ (x y : Int) (s : Sto) (Q : List U → Sto → Prop), (∀ rs : List Int, Rs r rs → rs.length ≤ r.toNat → Q (rs.map .int) s) → Wp (compM (fun room => (testW (op2 inSU (op2 ixU (.ret (.lst (sg.map .int))) (.ret room)) (tupW (consA (.ret (.int x)) (consA (.ret (.int y)) nilA)))))) (fun room => .ret room) ((List.range r.toNat).map fun i => U.int (i : Nat))) s Q := fun x y s Q q => by
          refine vs_compN (d := U.int) (fun i rs st => rs.Pairwise (· < ·) ∧ (∀ x ∈ rs, 0 ≤ x ∧ x < (i : Int) ∧ x < r) ∧ rs.length ≤ i ∧ st = s) ⟨.nil, by simp, Nat.le_refl _, rfl⟩ ?_ ?_
          · rintro i rs st hi ⟨pw, hb, hl, rfl⟩
            have hi' : i < sg.length := by omega
            refine vs_test (vs_op2 (vs_op2 (vs_ret (vs_ret (wo_eq (a := U.int sg[i]) ?_ (vs_tup (vs_consA (vs_ret (vs_consA (vs_ret (vs_nilA ⟨lit_le rfl, ?_⟩))))))))))) 
            · show atI (sg.map U.int) _ = _
              unfold atI ixN
              rw [if_pos (by omega), if_pos (by rw [List.length_map]; omega)]
              simp [hi']
            · refine wo_in_t (xs := [x, y]) (wo_some ?_)
              cases decide (sg[i] ∈ [x, y]) with
              | true =>
                refine Wp.ret ⟨i, rfl, ?_, ?_, by simpa using hl, rfl⟩
                · rw [List.pairwise_append]
                  exact ⟨pw, List.pairwise_singleton _ _, fun a ha b hb' => by rw [List.mem_singleton.mp hb']; exact (hb a ha).2.1⟩
                · intro x m
                  rcases List.mem_append.mp m with m | m
                  · have := hb x m; omega
                  · rw [List.mem_singleton.mp m]; omega
              | false => exact ⟨pw, fun x m => by have := hb x m; omega, by omega, rfl⟩
          · rintro rs st ⟨pw, hb, hl, rfl⟩
            exact q rs ⟨pw, fun x m => ⟨(hb x m).1, (hb x m).2.2⟩⟩ hl
        walk_at "v"
        refine sel 1 3 s _ fun a ha hla => ⟨by rw [List.length_map]; omega, ?_⟩
        walk_at "v"
        refine sel 2 3 s _ fun b hb' hlb => ⟨by rw [List.length_map]; omega, ?_⟩
        walk_at "v"
        refine wo_app (by rw [List.length_map]; omega) ?_
        walk_at "v"
        refine ⟨ps ++ [(a, b)], by simp [pairU], by simp [hl], fun p m => ?_, hs.up (by omega)⟩
        rcases List.mem_append.mp m with m | m
        · exact hp p m
        · rw [List.mem_singleton.mp m]; exact ⟨ha, hb'⟩
      · rintro ps st ⟨hl, hp, hb⟩
        show Wp _ _ _
        walk_at "v"
        exact ⟨"pairs", _, rfl, by simp [kinds4], .pairs (by omega) hp, hb.up (by omega)⟩

theorem kb {ms : Sto} {n : Nat} {r : Int} {st : Sto} {Q : U → Sto → Prop} (h : Bx ms n st) (hn : n < 10000000) (r0 : 1 ≤ r) (r1 : r ≤ 20) (k : ∀ (kind : Str) (B : U) (s : Sto), U.str kind ∈ kinds4 → ByOk r kind B → Bx ms (n + 100) s → Q (.tup [.str kind, B]) s) : Wp (m__law_kind_by (.loc ms.length) (.int r)) st Q :=
  (kind_by_ok h hn r0 r1).mono fun _ s ⟨kind, B, e, h1, h2, h3⟩ => e ▸ k kind B s h1 h2 h3
theorem parts_ok {ms : Sto} {n : Nat} {L r : Int} {st : Sto} (h : Bx ms n st) (hn : n < 1000000) (l0 : 1 ≤ L) (l1 : L ≤ 4) (r0 : 1 ≤ r) (r1 : r ≤ 20) : Wp (m__law_parts (.loc ms.length) (.int L) (.int r)) st fun u s => HallOk L r u ∧ Bx ms (n + 3000) s := by
  have sz : (1000000 : Nat) ≤ sizeLine := by decide
  unfold m__law_parts
  walk_at "v"
  refine tk h (by omega) (by decide) (by decide) fun d s d0 d1 hs => ?_
  walk_at "v"
  refine tk hs (by omega) (by decide) (by decide) fun o s o0 o1 hs => ?_
  walk_at "v"
  generalize decide (o = 0) = lone
  refine vs_forN (e := fun W : List (List Int) => U.lst (W.map tupI)) (fun i W st => WOk r L W ∧ Ahd i 0 W ∧ W.length ≤ i * 100 ∧ Bx ms (n + 2 + i * 80) st) (t0 := []) rfl ⟨⟨by simp, .nil⟩, (fun w m => nomatch m), by simp, hs.up (by omega)⟩ ?_ ?_
  · rintro i W st hi ⟨hW, hA, hl, hb⟩
    walk_at "v"
    refine vs_forN (e := fun W : List (List Int) => U.lst (W.map tupI)) (fun j W st => WOk r L W ∧ Ahd i j W ∧ W.length ≤ i * 100 + j * 20 ∧ Bx ms (n + 2 + i * 80 + j * 20) st) (t0 := W) rfl ⟨hW, hA, by omega, hb.up (by omega)⟩ ?_ ?_
    · rintro j W st hj ⟨hW, hA, hl, hb⟩
      walk_at "v"
      cases lone with
      | true =>
        refine if_t ?_
        walk_at "v"
        refine tk hb (by omega) (by omega) (by omega) fun k s k0 k1 hs => ?_
        walk_at "v"
        refine wo_app (by rw [List.length_map]; omega) ?_
        walk_at "v"
        obtain ⟨w1, w2⟩ := wok_more (es := [k]) hW hA ⟨by omega, by omega⟩ ⟨by omega, by omega⟩ ⟨List.pairwise_singleton _ _, fun x m => by rw [List.mem_singleton.mp m]; exact ⟨k0, k1⟩⟩
        exact ⟨W ++ [[(i : Int), (j : Int), k]], by simp [tupI], w1, w2, by rw [List.length_append]; simp; omega, hs.up (by omega)⟩
      | false =>
        refine if_f ?_
        refine vs_bindS (Wp.bind (vs_ret (Wp.bind (vs_consA (flt_ok (f := fun e => tupI [(i : Int), (j : Int), e]) hb (by omega) (by omega) ?_ ?_ fun rs s hr hrl hs => ?_)))))
        · intro e
          refine eq_of_wp fun st => ?_
          walk_at "v"
          exact ⟨rfl, rfl⟩
        · intro x m st hx hm hb
          walk_at "v"
          refine tk hb (by omega) (by decide) (by decide) fun k s k0 k1 hs => ?_
          walk_at "v"
          exact hs
        walk_at "v"
        refine wo_ext (by rw [List.length_map, List.length_map]; omega) ?_
        walk_at "v"
        obtain ⟨w1, w2⟩ := wok_more (es := rs) hW hA ⟨by omega, by omega⟩ ⟨by omega, by omega⟩ hr
        exact ⟨W ++ rs.map fun e => [(i : Int), (j : Int), e], by simp, w1, w2, by rw [List.length_append, List.length_map]; omega, hs.up (by omega)⟩
    · rintro W st ⟨hW, hA, hl, hb⟩
      walk_at "v"
      refine ⟨W, rfl, hW, fun w m => ?_, by omega, hb.up (by omega)⟩
      obtain ⟨r, l, e, rfl, q⟩ := hA w m
      exact ⟨r, l, e, rfl, .inl (by omega)⟩
  · rintro W st ⟨hW, hA, hl, hb⟩
    walk_at "v"
    refine tk hb (by omega) (by omega) (by omega) fun f s f0 f1 hs => ?_
    walk_at "v"
    refine kb hs (by omega) r0 r1 fun kind B s hk hB hs => ?_
    walk_at "v"
    exact ⟨⟨f, W, kind, B, rfl, f0, f1, hW, hk, hB⟩, hs.up (by omega)⟩

def rngI (n : Int) : List Int := (List.range n.toNat).map fun i : Nat => (i : Int)
theorem rngI_map (n : Int) : ((List.range n.toNat).map fun i => U.int (i : Nat)) = (rngI n).map .int := by unfold rngI; rw [List.map_map]; rfl
theorem mem_rngI {n x : Int} : x ∈ rngI n ↔ 0 ≤ x ∧ x < n := by
  unfold rngI
  rw [List.mem_map]
  constructor
  · rintro ⟨i, m, rfl⟩; have := List.mem_range.mp m; omega
  · rintro ⟨h0, h1⟩; exact ⟨x.toNat, List.mem_range.mpr (by omega), by omega⟩
theorem rngI_pw (n : Int) : (rngI n).Pairwise (· < ·) := by
  unfold rngI
  exact List.pairwise_map.mpr (List.pairwise_lt_range.imp fun h => by omega)
theorem ddI_len : ∀ ns : List Int, (ddI ns).length ≤ ns.length := snoc_ind (by simp [ddI]) fun l k ih => by
  rw [ddI_snoc, List.length_append]
  split
  · omega
  · rw [List.length_append]; simp; omega
def c3 : List Int → Int
  | [r, l, e] => r * 100 + l * 10 + e
  | _ => 0
theorem wok_len {n L : Int} {W : List (List Int)} (h : WOk n L W) (n1 : n ≤ 6) (l1 : L ≤ 4) : W.length ≤ 600 := by
  have hb : ∀ r ∈ W.map c3, 0 ≤ r ∧ r < 600 := fun r m => by
    obtain ⟨w, mw, rfl⟩ := List.mem_map.mp m
    obtain ⟨a, b, c, rfl, _⟩ := h.1 w mw
    simp only [c3]; omega
  have hp : (W.map c3).Pairwise (· < ·) := by
    refine List.pairwise_map.mpr (h.2.imp_of_mem fun {a b} ma mb q => ?_)
    obtain ⟨a1, a2, a3, rfl, _⟩ := h.1 a ma
    obtain ⟨b1, b2, b3, rfl, _⟩ := h.1 b mb
    simp only [lexLt, c3] at *
    omega
  have := rise_len (W.map c3) 0 600 hp hb
  rw [List.length_map] at this
  omega
theorem atI_nat {α : Type} {us : List α} {j : Nat} {u : α} (h : us[j]? = some u) : atI us (j : Int) = some u := by
  have := getElem?_lt h
  unfold atI ixN
  rw [if_pos (by omega), if_pos (by omega)]
  exact h
theorem ends_eq {L n s : Int} {W : List (List Int)} {kind : Str} {B : U} {G : List Dc} (hG : GOk n W G) {r : Nat} (l : Int) (hr : (r : Int) < n) : m_Hall_ends (hallObj L n s W kind B G) (.int r) (.int l) = .ret (.tup ((endsOf W r l).map .int)) := by
  have hlen := hG.len
  have hl : r < G.length := by omega
  have hD : G[r]? = some G[r] := List.getElem?_eq_getElem hl
  generalize G[r] = D at hD
  show fnM (rtO (M.bind (M.bind (M.o (atI (G.map dU) (r : Int))) fun d => .o (getD2 d (.int l) (.lst []))) (fun a => .o (tupleU a)))) = _
  rw [atI_nat (by rw [List.getElem?_map, hD]; rfl)]
  show fnM (rtO (M.bind (M.o (getD2 (dU D) (.int l) (.lst []))) (fun a => .o (tupleU a)))) = _
  rw [get_eq, (hG.at_ r D hD).2 l]
  rfl
def mkN (k : Nat) : Nat := 2 ^ (2 * k + 1)
abbrev PL : Type := List (List Int × List Int)
def nvP (P : PL) (k : Nat) : List Int := (P.getD k ([], [])).1
def ofP (P : PL) (k : Nat) : List Int := (P.getD k ([], [])).2
def stA (P : PL) (r : Int) : Nat → Nat
  | 0 => 1
  | k + 1 => stA P r k + (if r ∈ nvP P k then 0 else 3 * mkN k)
def riA (P : PL) (r : Int) : Nat → Nat
  | 0 => 0
  | k + 1 => riA P r k + (if r ∈ ofP P k ∧ r ∉ nvP P k then mkN k else 0)
theorem mkN_succ (k : Nat) : mkN (k + 1) = 4 * mkN k := by
  unfold mkN
  rw [show 2 * (k + 1) + 1 = (2 * k + 1) + 2 by omega, Nat.pow_add]; omega
theorem stA_lt (P : PL) (r : Int) : ∀ k, stA P r k < mkN k
  | 0 => show 1 < mkN 0 by decide
  | k + 1 => by
    have := stA_lt P r k
    rw [stA, mkN_succ]
    split <;> omega
theorem riA_lt (P : PL) (r : Int) : ∀ k, riA P r k < mkN k
  | 0 => show 0 < mkN 0 by decide
  | k + 1 => by
    have := riA_lt P r k
    rw [riA, mkN_succ]
    split <;> omega
theorem tb_add {a b k : Nat} (h : b < mkN k) (j : Nat) : (b + a * mkN k).testBit j = bif decide (j < 2 * k + 1) then b.testBit j else a.testBit (j - (2 * k + 1)) := by
  have e : b + a * mkN k = 2 ^ (2 * k + 1) * a + b := by rw [Nat.mul_comm a]; exact Nat.add_comm _ _
  rw [e, Nat.testBit_two_pow_mul_add _ h]
  by_cases c : j < 2 * k + 1
  · rw [if_pos c, decide_eq_true c]; rfl
  · rw [if_neg c, decide_eq_false c]; rfl
theorem stA_eq (P : PL) (r : Int) (k : Nat) : ∃ a, stA P r (k + 1) = stA P r k + a * mkN k ∧ a < 4 ∧ ∀ j, j < 2 → a.testBit j = decide (r ∉ nvP P k) := by
  rw [stA]
  by_cases c : r ∈ nvP P k
  · rw [if_pos c]
    exact ⟨0, by omega, by omega, fun j _ => by simp [c]⟩
  · rw [if_neg c]
    refine ⟨3, rfl, by omega, fun j hj => ?_⟩
    rw [decide_eq_true c]
    match j, hj with
    | 0, _ => rfl
    | 1, _ => rfl
theorem riA_eq (P : PL) (r : Int) (k : Nat) : ∃ a, riA P r (k + 1) = riA P r k + a * mkN k ∧ a < 2 ∧ a.testBit 0 = decide (r ∈ ofP P k ∧ r ∉ nvP P k) := by
  rw [riA]
  by_cases c : r ∈ ofP P k ∧ r ∉ nvP P k
  · rw [if_pos c]
    exact ⟨1, by omega, by omega, by simp [c]⟩
  · rw [if_neg c]
    exact ⟨0, by omega, by omega, by rw [decide_eq_false c]; rfl⟩
theorem stA_bit (P : PL) (r : Int) (i : Nat) : ∀ k, (stA P r k).testBit (2 * i + 1) = decide (i < k ∧ r ∉ nvP P i) ∧ (stA P r k).testBit (2 * i + 2) = decide (i < k ∧ r ∉ nvP P i)
  | 0 => by
    have h : ∀ j, (1 : Nat).testBit (j + 1) = false := fun j => Nat.testBit_lt_two_pow (Nat.one_lt_two_pow (by omega))
    exact ⟨(h _).trans (by simp), (h _).trans (by simp)⟩
  | k + 1 => by
    obtain ⟨h1, h2⟩ := stA_bit P r i k
    obtain ⟨a, e, ha, hb⟩ := stA_eq P r k
    rw [e, tb_add (stA_lt P r k), tb_add (stA_lt P r k)]
    by_cases c1 : i < k
    · rw [decide_eq_true (show 2 * i + 1 < 2 * k + 1 by omega), decide_eq_true (show 2 * i + 2 < 2 * k + 1 by omega), cond_true, cond_true, h1, h2]
      simp only [c1, true_and, show i < k + 1 by omega]
    · rw [decide_eq_false (show ¬ 2 * i + 1 < 2 * k + 1 by omega), decide_eq_false (show ¬ 2 * i + 2 < 2 * k + 1 by omega), cond_false, cond_false]
      by_cases c2 : i = k
      · subst c2
        rw [hb _ (by omega), hb _ (by omega)]
        simp
      · have z : ∀ j, 2 ≤ j → a.testBit j = false := fun j hj => by
          refine Nat.testBit_lt_two_pow ?_
          have : 2 ^ 2 ≤ 2 ^ j := Nat.pow_le_pow_right (by omega) hj
          omega
        rw [z _ (by omega), z _ (by omega)]
        simp only [show ¬ i < k + 1 by omega, false_and, decide_false, and_self]
theorem stA_bit0 (P : PL) (r : Int) : ∀ k, (stA P r k).testBit 0 = true
  | 0 => show (1 : Nat).testBit 0 = true by decide
  | k + 1 => by
    obtain ⟨a, e, _, _⟩ := stA_eq P r k
    rw [e, tb_add (stA_lt P r k), decide_eq_true (show 0 < 2 * k + 1 by omega), cond_true, stA_bit0 P r k]
theorem riA_bit (P : PL) (r : Int) (i : Nat) : ∀ k, (riA P r k).testBit (2 * i + 1) = decide (i < k ∧ r ∈ ofP P i ∧ r ∉ nvP P i) ∧ (riA P r k).testBit (2 * i) = false
  | 0 => by rw [riA]; simp
  | k + 1 => by
    obtain ⟨h1, h2⟩ := riA_bit P r i k
    obtain ⟨a, e, ha, hb⟩ := riA_eq P r k
    have z : ∀ j, 1 ≤ j → a.testBit j = false := fun j hj => by
      refine Nat.testBit_lt_two_pow ?_
      have : 2 ^ 1 ≤ 2 ^ j := Nat.pow_le_pow_right (by omega) hj
      omega
    rw [e, tb_add (riA_lt P r k), tb_add (riA_lt P r k)]
    by_cases c1 : i < k
    · rw [decide_eq_true (show 2 * i + 1 < 2 * k + 1 by omega), decide_eq_true (show 2 * i < 2 * k + 1 by omega), cond_true, cond_true, h1, h2]
      simp only [c1, true_and, show i < k + 1 by omega]
    · by_cases c2 : i = k
      · subst c2
        rw [decide_eq_false (show ¬ 2 * i + 1 < 2 * i + 1 by omega), decide_eq_true (show 2 * i < 2 * i + 1 by omega), cond_false, cond_true, h2, show 2 * i + 1 - (2 * i + 1) = 0 by omega, hb]
        simp
      · rw [decide_eq_false (show ¬ 2 * i + 1 < 2 * k + 1 by omega), decide_eq_false (show ¬ 2 * i < 2 * k + 1 by omega), cond_false, cond_false, z _ (by omega), z _ (by omega)]
        simp only [show ¬ i < k + 1 by omega, false_and, decide_false, and_self]
theorem and_nat (x y : Nat) : Builtin.bitAnd (x : Int) (y : Int) = ((x &&& y : Nat) : Int) := by
  unfold Builtin.bitAnd
  rw [show decide ((0 : Int) ≤ (x : Int)) = true from decide_eq_true (Int.natCast_nonneg x), show decide ((0 : Int) ≤ (y : Int)) = true from decide_eq_true (Int.natCast_nonneg y)]
  simp
theorem or_nat (x y : Nat) : Builtin.bitOr (x : Int) (y : Int) = ((x ||| y : Nat) : Int) := by
  unfold Builtin.bitOr Builtin.bitAnd Builtin.bitNot
  rw [show decide ((0 : Int) ≤ -(x : Int) - 1) = false from decide_eq_false (by omega), show decide ((0 : Int) ≤ -(y : Int) - 1) = false from decide_eq_false (by omega)]
  simp only
  rw [show (-(-(x : Int) - 1) - 1).toNat = x by omega, show (-(-(y : Int) - 1) - 1).toNat = y by omega]
  omega
def fnL (n : Nat) (f : Nat → Nat) : List U := (List.range n).map fun i => U.int (f i : Nat)
theorem fnL_len (n : Nat) (f : Nat → Nat) : (fnL n f).length = n := by unfold fnL; rw [List.length_map, List.length_range]
theorem fnL_get {n i : Nat} (h : i < n) (f : Nat → Nat) : (fnL n f)[i]? = some (.int (f i : Nat)) := by
  unfold fnL; rw [List.getElem?_map, List.getElem?_range h]; rfl
theorem fnL_congr {n : Nat} {f g : Nat → Nat} (h : ∀ i, i < n → f i = g i) : fnL n f = fnL n g := by
  unfold fnL
  exact List.map_congr_left fun i m => by rw [h i (List.mem_range.mp m)]
theorem fnL_set {n j v : Nat} (f : Nat → Nat) : (fnL n f).set j (.int (v : Nat)) = fnL n fun i => if i = j then v else f i := by
  apply List.ext_getElem?
  intro i
  by_cases hi : i < n
  · rw [fnL_get hi]
    by_cases e : j = i
    · subst e
      rw [List.getElem?_set_self (by rw [fnL_len]; exact hi), if_pos rfl]
    · rw [List.getElem?_set_ne e, fnL_get hi, if_neg (fun z => e z.symm)]
  · rw [List.getElem?_eq_none (by rw [List.length_set, fnL_len]; omega), List.getElem?_eq_none (by rw [fnL_len]; omega)]
theorem fnL_rep (n c : Nat) : (List.replicate n [U.int (c : Nat)]).flatten = fnL n fun _ => c := by
  induction n with
  | zero => rfl
  | succ n ih =>
    have : fnL (n + 1) (fun _ => c) = fnL n (fun _ => c) ++ [.int (c : Nat)] := by unfold fnL; rw [List.range_succ, List.map_append]; rfl
    rw [this, List.replicate_succ', List.flatten_append, ih]; simp
theorem fnL_snoc (n : Nat) (f : Nat → Nat) : fnL (n + 1) f = fnL n f ++ [.int (f n : Nat)] := by unfold fnL; rw [List.range_succ, List.map_append]; rfl
theorem fnL_leaf (n : Nat) (f : Nat → Nat) : (fnL n f).all leafU = true := by
  unfold fnL
  rw [List.all_map, List.all_eq_true]
  intro i _; rfl
theorem ixN_nat {n i : Nat} (h : i < n) : ixN n (i : Int) = some i := by
  unfold ixN
  rw [if_pos (by omega), if_pos (by omega)]; simp

def sNames : List Str := ["walked", "staying", "rising", "marks"]
def stO (h : U) (n : Nat) (f g : Nat → Nat) (k : Nat) : U := .obj "Strides" sNames [h, .lst (fnL n f), .lst (fnL n g), .lst (fnL k mkN)]
section
variable {ms : Sto} {h : U} {n k : Nat} {f g : Nat → Nat} {Q : Out Unit Unit → Sto → Prop}
theorem aug_stay {r : Nat} {v : Nat} (hr : r < n) (hv : 3 * v < 2 ^ 62) (q : Q (.nx ()) (ms ++ [stO h n (fun i => if i = r then f r + 3 * v else f i) g k])) :
    Wp (.bind (.bind (.bind (.ret (.loc ms.length)) locM) fun c => .o (fldC ["Strides"] "staying" c)) fun c => .bind (.ret (.int (r : Nat))) fun n => .bind (.o (getItC c n)) fun x => .bind (op2 mulIU (.ret (.int 3)) (.ret (.int (v : Nat)))) fun y => .bind (.o (addIU x y)) fun z => .bind (.o (setItC c n z)) fun d => .bind (putC d.1 d.2.1) fun _ => (nxO ())) (ms ++ [stO h n f g k]) Q := by
  have e1 : getItC (ms.length, (U.lst (fnL n f), fun x => U.obj "Strides" sNames [h, x, .lst (fnL n g), .lst (fnL k mkN)])) (.int (r : Nat)) = some (.int (f r : Nat)) := by
    simp only [getItC, fnL_len, ixN_nat hr]
    exact fnL_get hr f
  have e2 : setItC (ms.length, (U.lst (fnL n f), fun x => U.obj "Strides" sNames [h, x, .lst (fnL n g), .lst (fnL k mkN)])) (.int (r : Nat)) (.int ((f r : Nat) + 3 * (v : Nat) : Int)) = some (ms.length, (stO h n (fun i => if i = r then f r + 3 * v else f i) g k, id)) := by
    simp only [setItC, fnL_len, ixN_nat hr, fnL_get hr f]
    rw [if_pos (show leafU _ = true from rfl), if_pos (show leafU _ = true from rfl)]
    rw [show ((f r : Nat) : Int) + 3 * (v : Nat) = ((f r + 3 * v : Nat) : Int) by omega, fnL_set]
    rfl
  have e3 : mulIU (.int 3) (.int (v : Nat)) = some (.int (3 * (v : Nat))) := by
    simp only [mulIU]
    exact if_pos (Or.inl (by omega))
  refine .bind (.bind (.bind (.ret (wp_loc (.o rfl ?_)))))
  refine .bind (.ret (.bind (.o e1 ?_)))
  refine .bind (.op2 (.ret (.ret ⟨_, e3, ?_⟩)))
  refine .bind (.o rfl (.bind (.o e2 (.bind (wp_put (.nx q))))))
theorem aug_rise {r : Nat} {v : Nat} (hr : r < n) (q : Q (.nx ()) (ms ++ [stO h n f (fun i => if i = r then g r + v else g i) k])) :
    Wp (.bind (.bind (.bind (.ret (.loc ms.length)) locM) fun c => .o (fldC ["Strides"] "rising" c)) fun c => .bind (.ret (.int (r : Nat))) fun n => .bind (.o (getItC c n)) fun x => .bind (.ret (.int (v : Nat))) fun y => .bind (.o (addIU x y)) fun z => .bind (.o (setItC c n z)) fun d => .bind (putC d.1 d.2.1) fun _ => (nxO ())) (ms ++ [stO h n f g k]) Q := by
  have e1 : getItC (ms.length, (U.lst (fnL n g), fun x => U.obj "Strides" sNames [h, .lst (fnL n f), x, .lst (fnL k mkN)])) (.int (r : Nat)) = some (.int (g r : Nat)) := by
    simp only [getItC, fnL_len, ixN_nat hr]
    exact fnL_get hr g
  have e2 : setItC (ms.length, (U.lst (fnL n g), fun x => U.obj "Strides" sNames [h, .lst (fnL n f), x, .lst (fnL k mkN)])) (.int (r : Nat)) (.int ((g r : Nat) + (v : Nat) : Int)) = some (ms.length, (stO h n f (fun i => if i = r then g r + v else g i) k, id)) := by
    simp only [setItC, fnL_len, ixN_nat hr, fnL_get hr g]
    rw [if_pos (show leafU _ = true from rfl), if_pos (show leafU _ = true from rfl)]
    rw [show ((g r : Nat) : Int) + (v : Nat) = ((g r + v : Nat) : Int) by omega, fnL_set]
    rfl
  refine .bind (.bind (.bind (.ret (wp_loc (.o rfl ?_)))))
  refine .bind (.ret (.bind (.o e1 ?_)))
  refine .bind (.ret (.bind (.o rfl (.bind (.o e2 (.bind (wp_put (.nx q))))))))
end

theorem stO_congr {ms : Sto} {h : U} {n k : Nat} {f g f' g' : Nat → Nat} (e1 : ∀ j, j < n → f j = f' j) (e2 : ∀ j, j < n → g j = g' j) : ms ++ [stO h n f g k] = ms ++ [stO h n f' g' k] := by
  unfold stO
  rw [fnL_congr e1, fnL_congr e2]
theorem mkN_lt {k : Nat} (h : k ≤ 15) : mkN k < 4294967296 := by
  unfold mkN
  exact Nat.lt_of_le_of_lt (Nat.pow_le_pow_right (by omega) (show 2 * k + 1 ≤ 31 by omega)) (by decide)
theorem mark_ok {ms : Sto} {h : U} {n k : Nat} {f g : Nat → Nat} {Q : U → Sto → Prop} (hk : k ≤ 15) (q : Q (.int (mkN k : Nat)) (ms ++ [stO h n f g k])) :
    Wp (iteW (testW (.bind (.bind (.bind (.ret (.loc ms.length)) locM) fun c => .o (fldC ["Strides"] "marks" c)) fun c => .o (eqU c.2.1 (.lst [])))) (.ret (.int 2)) (op2 mulU (.ret (.int 4)) (.bind (.bind (.bind (.bind (.ret (.loc ms.length)) locM) fun c => .o (fldC ["Strides"] "marks" c)) fun c => .bind (op1 negU (.ret (.int 1))) fun n => .o (ixC c n)) fun c => .o (valC c)))) (ms ++ [stO h n f g k]) Q := by
  have e1 : eqU (.lst (fnL k mkN)) (.lst []) = some (.bl (decide (k = 0))) := by
    have e : fnL k mkN = ((List.range k).map fun i => ((mkN i : Nat) : Int)).map .int := by unfold fnL; rw [List.map_map]; rfl
    rw [e]
    refine eqU_nb (u := .lst _) (v := .lst []) (nb_ints _) rfl (by unfold dpU; rw [dp_ints]; decide) (by decide) ?_
    rw [decide_eq_true_eq]
    constructor
    · rintro rfl; rfl
    · intro e
      have := congrArg (fun u => match u with | U.lst us => us.length | _ => 0) e
      simpa using this
  refine .ite (.test (.bind (.bind (.bind (.ret (wp_loc (.o rfl ?_))))))) 
  refine .o e1 ⟨_, rfl, ?_⟩
  by_cases hz : k = 0
  · subst hz
    rw [decide_eq_true rfl]
    simp only [if_true]
    exact .ret q
  · rw [decide_eq_false hz]
    simp only [Bool.false_eq_true, if_false]
    obtain ⟨j, rfl⟩ : ∃ j, k = j + 1 := ⟨k - 1, by omega⟩
    have e2 : ixC (ms.length, (U.lst (fnL (j + 1) mkN), fun x => U.obj "Strides" sNames [h, .lst (fnL n f), .lst (fnL n g), x])) (.int (-1)) = some (ms.length, (.int (mkN j : Nat), fun x => U.obj "Strides" sNames [h, .lst (fnL n f), .lst (fnL n g), .lst ((fnL (j + 1) mkN).set j x)])) := by
      have en : ixN (fnL (j + 1) mkN).length (-1) = some j := by
        rw [fnL_len]; unfold ixN
        rw [if_neg (by omega), if_pos (by omega)]
        exact congrArg some (by omega)
      simp only [ixC, ixH, en, fnL_get (show j < j + 1 by omega)]
      rfl
    have := mkN_lt (show j ≤ 15 by omega)
    have e3 : mulU (.int 4) (.int (mkN j : Nat)) = some (.int (mkN (j + 1) : Nat)) := by
      rw [mkN_succ]
      have : mulU (.int 4) (.int (mkN j : Nat)) = some (.int (4 * (mkN j : Nat))) := by
        simp only [mulU]; exact if_pos (Or.inl (by omega))
      rw [this]; congr 2
    refine .op2 (.ret (.bind (.bind (.bind (.bind (.ret (wp_loc (.o rfl ?_))))))))
    refine .bind (.op1 (.ret ⟨.int (-1), rfl, .o e2 (.o rfl ⟨_, e3, q⟩)⟩))
theorem sinit_ok {ms : Sto} {n L s : Int} {W : List (List Int)} {kind : Str} {B : U} {G : List Dc} {P : PL} (hP : m_pairs_of (hallObj L n s W kind B G) = .ret (.tup (P.map pairU))) (hr : ∀ p ∈ P, Rs n p.1 ∧ Rs n p.2) (n0 : 1 ≤ n) (n1 : n ≤ 50) (pl : P.length ≤ 14) :
    Wp (m_Strides___init__ (.loc ms.length) (hallObj L n s W kind B G)) (ms ++ [.obj "Strides" [] []]) fun u st => u = .non ∧ st = ms ++ [stO (hallObj L n s W kind B G) n.toNat (fun i => stA P (i : Nat) P.length) (fun i => riA P (i : Nat) P.length) P.length] := by
  have sz : (1000000 : Nat) ≤ sizeLine := by decide
  have hpre : ∀ (pre : PL) (p : List Int × List Int) (post : PL), P = pre ++ p :: post → nvP P pre.length = p.1 ∧ ofP P pre.length = p.2 := fun pre p post e => by
    unfold nvP ofP
    rw [e, List.getD_eq_getElem?_getD, List.getElem?_append_right (Nat.le_refl _)]
    simp
  have rep : ∀ c : Nat, mulLU (.lst [.int (c : Nat)]) (.int n) = some (.lst (fnL n.toNat fun _ => c)) := fun c => by
    simp only [mulLU]
    rw [if_pos (by simp; omega), fnL_rep]
  unfold m_Strides___init__
  refine .fn (.bind (.bind (.ret (.o rfl (.bind (wp_loc (.bind (.o rfl (.bind (wp_put ?_)))))))))) 
  refine .bind (.bind (.op2 ?_))
  walk_at "v"
  refine ⟨_, rep 1, ?_⟩
  refine .o (if_pos (fnL_leaf _ _)) (.bind (wp_loc (.bind (.o rfl (.bind (wp_put ?_))))))
  refine .bind (.bind (.op2 ?_))
  walk_at "v"
  refine ⟨_, rep 0, ?_⟩
  refine .o (if_pos (fnL_leaf _ _)) (.bind (wp_loc (.bind (.o rfl (.bind (wp_put ?_))))))
  walk_at "v"
  refine wp_loc ?_
  refine Wp.bind (.o rfl (.bind (wp_put ?_)))
  show Wp _ (ms ++ [stO (hallObj L n s W kind B G) n.toNat (fun _ => 1) (fun _ => 0) 0]) _
  walk_at "v"
  refine vs_eq hP ?_
  walk_at "v"
  refine vs_for (c := pairU) (e := fun _ : Unit => ()) (fun pre _ st => st = ms ++ [stO (hallObj L n s W kind B G) n.toNat (fun i => stA P (i : Nat) pre.length) (fun i => riA P (i : Nat) pre.length) pre.length]) (t0 := ()) rfl rfl ?_ ?_
  · rintro pre p post _ st ex rfl
    obtain ⟨e1, e2⟩ := hpre pre p post ex
    obtain ⟨r1, r2⟩ := hr p (by rw [ex]; simp)
    have hk : pre.length < P.length := by rw [ex]; simp
    have hlen : (pre ++ [p]).length = pre.length + 1 := by simp
    rw [hlen]
    generalize pre.length = k at e1 e2 hk
    obtain ⟨never, often⟩ := p
    dsimp only at e1 e2 r1 r2
    have hm := mkN_lt (show k ≤ 15 by omega)
    unfold pairU
    refine vs_un2 ?_
    refine Wp.bind (mark_ok (k := k) (by omega) ?_)
    have em : ∀ (f g : Nat → Nat), mutC appL (ms.length, (U.lst (fnL k mkN), fun x => U.obj "Strides" sNames [hallObj L n s W kind B G, .lst (fnL n.toNat f), .lst (fnL n.toNat g), x])) [.int (mkN k : Nat)] = some (.non, (ms.length, (stO (hallObj L n s W kind B G) n.toNat f g (k + 1), id))) := fun f g => by
      simp only [mutC]
      rw [if_pos ⟨fnL_leaf _ _, rfl⟩]
      have ea : appL (fnL k mkN) [.int (mkN k : Nat)] = some (.non, fnL (k + 1) mkN) := by
        rw [fnL_snoc]; simp only [appL]
        exact if_pos (by rw [fnL_len]; omega)
      rw [ea]
      simp only
      rw [if_pos (fnL_leaf _ _)]
      rfl
    refine .bind (.bind (.bind (.ret (wp_loc (.o rfl ?_)))))
    refine .bind (.ret (.bind (.o (em _ _) (.bind (wp_put ?_)))))
    walk_at "v"
    refine vs_forN (e := fun _ : Unit => ()) (fun i _ st => st = ms ++ [stO (hallObj L n s W kind B G) n.toNat (fun j => if j < i then stA P (j : Nat) (k + 1) else stA P (j : Nat) k) (fun j => riA P (j : Nat) k) (k + 1)]) (t0 := ()) rfl ?_ ?_ ?_
    · exact stO_congr (fun j hj => by rw [if_neg (by omega)]) fun j hj => rfl
    · rintro i _ st hi rfl
      have hin : i < n.toNat := by omega
      walk_at "v"
      refine if_ndec (fun hx => ?_) fun hx => ?_
      · refine aug_stay hin (by omega) ⟨(), rfl, ?_⟩
        refine stO_congr (fun j hj => ?_) fun j hj => rfl
        by_cases e : j = i
        · subst e
          rw [if_pos rfl, if_neg (by omega), if_pos (by omega), stA, e1, if_neg hx]
        · rw [if_neg e]
          by_cases c : j < i
          · rw [if_pos c, if_pos (by omega)]
          · rw [if_neg c, if_neg (by omega)]
      · walk_at "v"
        refine ⟨(), rfl, ?_⟩
        refine stO_congr (fun j hj => ?_) fun j hj => rfl
        by_cases e : j = i
        · subst e
          rw [if_neg (by omega), if_pos (by omega), stA, e1, if_pos hx]; rfl
        · by_cases c : j < i
          · rw [if_pos c, if_pos (by omega)]
          · rw [if_neg c, if_neg (by omega)]
    · rintro _ st rfl
      walk_at "v"
      refine vs_for (c := U.int) (e := fun _ : Unit => ()) (fun pr _ st => st = ms ++ [stO (hallObj L n s W kind B G) n.toNat (fun j => stA P (j : Nat) (k + 1)) (fun j => if ((j : Nat) : Int) ∈ pr then riA P (j : Nat) (k + 1) else riA P (j : Nat) k) (k + 1)]) (t0 := ()) rfl ?_ ?_ ?_
      · refine stO_congr (fun j hj => ?_) fun j hj => ?_
        · rw [if_pos (by omega)]
        · rw [if_neg (by simp)]
      · rintro pr r po _ st exx rfl
        have exx : often = pr ++ r :: po := exx
        have hmr : r ∈ often := by rw [exx]; simp
        have hr0 := r2.2 r hmr
        have hnp : r ∉ pr := fun m => by
          have := r2.1
          rw [exx, List.pairwise_append] at this
          have := this.2.2 r m r List.mem_cons_self
          omega
        obtain ⟨j0, rfl⟩ : ∃ j0 : Nat, r = (j0 : Int) := ⟨r.toNat, by omega⟩
        walk_at "v"
        refine if_ndec (fun hx => ?_) fun hx => ?_
        · refine aug_rise (by omega) ⟨(), rfl, ?_⟩
          refine stO_congr (fun j hj => rfl) fun j hj => ?_
          by_cases e : j = j0
          · subst e
            rw [if_pos rfl, if_neg hnp, if_pos (by simp), riA, e1, e2, if_pos ⟨hmr, hx⟩]
          · rw [if_neg e]
            by_cases c : ((j : Nat) : Int) ∈ pr
            · rw [if_pos c, if_pos (by simp [c])]
            · rw [if_neg c, if_neg (by simp [c]; omega)]
        · walk_at "v"
          refine ⟨(), rfl, ?_⟩
          refine stO_congr (fun j hj => rfl) fun j hj => ?_
          by_cases e : j = j0
          · subst e
            rw [if_neg hnp, if_pos (by simp), riA, e1, e2, if_neg (fun z => z.2 hx)]; rfl
          · by_cases c : ((j : Nat) : Int) ∈ pr
            · rw [if_pos c, if_pos (by simp [c])]
            · rw [if_neg c, if_neg (by simp [c]; omega)]
      · rintro _ st rfl
        walk_at "v"
        refine ⟨(), rfl, ?_⟩
        refine stO_congr (fun j hj => rfl) fun j hj => ?_
        by_cases c : ((j : Nat) : Int) ∈ often
        · rw [if_pos c]
        · rw [if_neg c, riA, e2, if_neg (fun z => c z.1)]; rfl
  · rintro _ st rfl
    walk_at "v"
    exact ⟨rfl, rfl⟩
theorem nl_fnL (n : Nat) (f : Nat → Nat) : nlA (fnL n f) = true := nlA_map (fun _ => rfl) _
theorem smk_at {st : Sto} {n L s : Int} {W : List (List Int)} {kind : Str} {B : U} {G : List Dc} {P : PL} (hP : m_pairs_of (hallObj L n s W kind B G) = .ret (.tup (P.map pairU))) (hr : ∀ p ∈ P, Rs n p.1 ∧ Rs n p.2) (hB : ByOk n kind B) (n0 : 1 ≤ n) (n1 : n ≤ 50) (pl : P.length ≤ 14) {wa : M (List U)} {Q : U → Sto → Prop}
    (ha : Wp wa st fun us s' => us = [hallObj L n s W kind B G] ∧ Q (stO (hallObj L n s W kind B G) n.toNat (fun i => stA P (i : Nat) P.length) (fun i => riA P (i : Nat) P.length) P.length) s') : Wp (mkM "Strides" (L2' m_Strides___init__) wa) st Q := by
  obtain ⟨us, s', e1, rfl, q⟩ := ha
  have hl' : (opq s').length = s'.length := by unfold opq; rw [List.length_map, List.length_range]
  obtain ⟨u, st', e, rfl, rfl⟩ := sinit_ok (ms := opq s') hP hr n0 n1 pl
  refine ⟨_, s', ?_, q⟩
  refine Eq.trans (M.bind_of e1) ?_
  rw [hl'] at e
  generalize eO : stO (hallObj L n s W kind B G) n.toNat (fun i => stA P (i : Nat) P.length) (fun i => riA P (i : Nat) P.length) P.length = O at e ⊢
  have hx : (opq s' ++ [O])[s'.length]? = some O := by rw [← hl']; simp
  show (match m_Strides___init__ (.loc s'.length) (hallObj L n s W kind B G) (opq s' ++ [.obj "Strides" [] []]) with
      | some (.ok .non, st') => match st'[s'.length]? with
        | some u => if nlU u = true then some (Res.ok u, s') else none
        | none => none
      | _ => none) = _
  rw [e]
  simp only [hx]
  rw [if_pos]
  rw [← eO]
  simp [stO, nlU, nlA, nl_fnL, nl_hall hB]

theorem vs_forR {S L σ : Type} {st : Sto} {c : Nat → U} {e : σ → S} {f : U → S → M (Out S S)} {Q : Out S L → Sto → Prop} {n : Nat} (I : Nat → σ → Sto → Prop) {s0 : S} {t0 : σ} (he : s0 = e t0) (h0 : I 0 t0 st)
    (hs : ∀ (i : Nat) (s : σ) (st : Sto), i < n → I i s st → Wp (f (c i) (e s)) st (ForK (fun s' st' => ∃ t, s' = e t ∧ I (i + 1) t st') Q))
    (hd : ∀ s st, I n s st → Q (.nx (e s)) st) : Wp (forO f ((List.range n).map c) s0) st Q := by
  refine vs_for (c := c) (e := e) (xs := List.range n) (fun pre s st => pre = List.range pre.length ∧ I pre.length s st) he ⟨rfl, h0⟩ ?_ ?_
  · rintro pre x post s st ex ⟨hp, hi⟩
    have hl : pre.length < n := by have := congrArg List.length ex; simp at this; omega
    have hx : x = pre.length := by
      have h1 : (List.range n)[pre.length]? = some x := by rw [ex]; simp
      rw [List.getElem?_range hl] at h1
      exact (Option.some.inj h1).symm
    subst hx
    refine (hs _ s st hl hi).mono fun o st' q => ?_
    cases o with
    | nx s' => obtain ⟨t, e1, e2⟩ := q; exact ⟨t, e1, by rw [List.length_append, List.length_singleton, List.range_succ, ← hp], by rw [List.length_append]; exact e2⟩
    | ct s' => obtain ⟨t, e1, e2⟩ := q; exact ⟨t, e1, by rw [List.length_append, List.length_singleton, List.range_succ, ← hp], by rw [List.length_append]; exact e2⟩
    | bk s' => exact q
    | rt u => exact q
  · rintro s st ⟨_, h⟩
    rw [List.length_range] at h
    exact hd s st h
theorem enumL_fn (n : Nat) (f : Nat → Nat) : enumL (fnL n f) = (List.range n).map fun i => U.tup [.int (i : Nat), .int (f i : Nat)] := by
  apply List.ext_getElem?
  intro i
  by_cases hi : i < n
  · unfold enumL
    rw [fnL_len, List.getElem?_zipWith, List.getElem?_range hi, fnL_get hi, List.getElem?_map, List.getElem?_range hi]; rfl
  · rw [List.getElem?_eq_none (by rw [enumL_len, fnL_len]; omega), List.getElem?_eq_none (by simp; omega)]
def ent (s t x : Nat) : Nat := (x &&& s) ||| 2 * ((x &&& s) &&& t)
def stepU (n : Nat) (M : Nat → Nat → Nat) : U := .tup ((List.range n).map fun i => .tup (fnL n (M i)))
theorem entered_eq {h : U} {n k r x : Nat} {f g : Nat → Nat} (hr : r < n) : m_Strides_entered (stO h n f g k) (.int (x : Nat)) (.int (r : Nat)) = .ret (.int (ent (f r) (g r) x : Nat)) := by
  refine eq_of_wp fun st => ?_
  have e1 : ∀ f : Nat → Nat, ixU (.lst (fnL n f)) (.int (r : Nat)) = some (.int (f r : Nat)) := fun f => atI_nat (fnL_get hr f)
  unfold m_Strides_entered
  refine .fn (.bind (.op2 (.ret (.op2 (.op1 (.ret ⟨_, rfl, .ret ⟨_, e1 f, ⟨_, rfl, ?_⟩⟩⟩)))))) 
  rw [and_nat]
  have e2 : mulU (.int 2) (.int (x &&& f r &&& g r : Nat)) = some (.int (2 * (x &&& f r &&& g r) : Nat)) := by
    have : mulU (.int 2) (.int (x &&& f r &&& g r : Nat)) = some (.int (2 * ((x &&& f r &&& g r : Nat) : Int))) := by
      simp only [mulU]; exact if_pos (Or.inl (by omega))
    rw [this]; rfl
  refine .rt (.op2 (.ret (.op2 (.ret (.op2 (.ret (.op2 (.op1 (.ret ⟨_, rfl, .ret ⟨_, e1 g, ⟨_, rfl, ?_⟩⟩⟩)))))))))
  rw [and_nat]
  refine ⟨_, e2, _, rfl, ?_⟩
  rw [or_nat]
  exact ⟨rfl, rfl⟩
theorem mem_endsS {W : List (List Int)} {r l x : Int} : x ∈ endsOf W r l ↔ [r, l, x] ∈ W := by
  unfold endsOf
  rw [List.mem_filterMap]
  constructor
  · rintro ⟨w, m, e⟩
    match w, e with
    | [a, b, c], e =>
      simp only [oneEnd] at e
      split at e
      · rename_i h
        cases e
        rw [← h.1, ← h.2]; exact m
      · cases e
    | [], e => cases e
    | [_], e => cases e
    | [_, _], e => cases e
    | _ :: _ :: _ :: _ :: _, e => cases e
  · intro m
    exact ⟨_, m, by simp [oneEnd]⟩

def onE (s t : Nat → Nat) (x : Nat) (a : Nat → Nat) (es : List Int) : Nat → Nat := fun i => if ((i : Nat) : Int) ∈ es then a i ||| ent (s i) (t i) x else a i
def onR (W : List (List Int)) (s t f : Nat → Nat) (l : Int) : Nat → Nat → Nat
  | 0 => fun _ => 0
  | k + 1 => if 0 < f k then onE s t (f k) (onR W s t f l k) (endsOf W (k : Nat) l) else onR W s t f l k
def onM (W : List (List Int)) (s t : Nat → Nat) (n : Nat) (M : Nat → Nat → Nat) (l : Int) : Nat → Nat → Nat := fun i => onR W s t (M i) l n
theorem onward_eq {n L s0 l : Int} {W : List (List Int)} {kind : Str} {B : U} {G : List Dc} {k : Nat} {f g : Nat → Nat} {M : Nat → Nat → Nat} (hG : GOk n W G) (hW : WOk n L W) (hl : W.length < 50000) (n0 : 1 ≤ n) (n1 : n ≤ 50) :
    m_Strides_onward (stO (hallObj L n s0 W kind B G) n.toNat f g k) (stepU n.toNat M) (.int l) = .ret (stepU n.toNat (onM W f g n.toNat M l)) := by
  have sz : (1000000 : Nat) ≤ sizeLine := by decide
  refine eq_of_wp fun st => ?_
  unfold m_Strides_onward stepU
  walk_at "v"
  refine vs_forR (c := fun i => U.tup (fnL n.toNat (M i))) (e := fun t : List U => U.lst t) (fun i t st' => st' = st ∧ t = (List.range i).map fun i => U.tup (fnL n.toNat (onM W f g n.toNat M l i))) (t0 := []) rfl ⟨rfl, rfl⟩ ?_ ?_
  · rintro i t st hi ⟨rfl, rfl⟩
    walk_at "v"
    refine ⟨.lst (fnL n.toNat fun _ => 0), ?_, ?_⟩
    · simp only [mulLU]
      rw [if_pos (by simp; rw [fnL_len]; omega), fnL_len, Int.toNat_natCast, ← fnL_rep]; rfl
    walk_at "v"
    rw [enumL_fn]
    refine vs_forR (e := fun a : Nat → Nat => U.lst (fnL n.toNat a)) (fun j a st' => st' = st ∧ a = onR W f g (M i) l j) (t0 := fun _ => 0) rfl ⟨rfl, rfl⟩ ?_ ?_
    · rintro j a st hj ⟨rfl, rfl⟩
      walk_at "v"
      refine if_dec (fun hx => ?_) fun hx => ?_
      · walk_at "v"
        refine vs_eq (ends_eq hG l (by omega)) ?_
        walk_at "v"
        refine vs_for (c := U.int) (e := fun a : Nat → Nat => U.lst (fnL n.toNat a)) (fun pre a st' => st' = st ∧ a = onE f g (M i j) (onR W f g (M i) l j) pre) (t0 := onR W f g (M i) l j) rfl ⟨rfl, ?_⟩ ?_ ?_
        · funext q; simp [onE]
        · rintro pre x post a st ex ⟨rfl, rfl⟩
          obtain ⟨_, _, _, ew, _, _, _, _, x0, x1⟩ := hW.1 _ (mem_endsS.mp (show x ∈ endsOf W (j : Nat) l by rw [ex]; simp))
          cases ew
          obtain ⟨x, rfl⟩ : ∃ y : Nat, x = (y : Int) := ⟨x.toNat, by omega⟩
          have hx : x < n.toNat := by omega
          generalize ea : onE f g (M i j) (onR W f g (M i) l j) pre = a
          have e1 : getItH (.lst (fnL n.toNat a), id) (.int (x : Nat)) = some (.int (a x : Nat)) := by
            simp only [getItH, fnL_len, ixN_nat hx]; exact fnL_get hx a
          have e2 : ∀ v : Nat, setItH (.lst (fnL n.toNat a), id) (.int (x : Nat)) (.int (v : Nat)) = some (.lst (fnL n.toNat fun q => if q = x then v else a q)) := fun v => by
            simp only [setItH, fnL_len, ixN_nat hx]; rw [fnL_set]; rfl
          refine .bind (.ret (.bind (.ret (.bind (.o e1 (.bind ?_))))))
          walk_at "v"
          refine vs_eq (entered_eq hx) ?_
          refine .bind (.o (show orU _ _ = some _ from rfl) ?_)
          rw [or_nat]
          refine .bind (.o (e2 _) (.nx ⟨fun q => if q = x then a x ||| ent (f x) (g x) (M i j) else a q, rfl, rfl, ?_⟩))
          funext q
          rw [← ea]
          unfold onE
          by_cases e : q = x
          · subst e
            have m : ((q : Nat) : Int) ∈ pre ++ [((q : Nat) : Int)] := by simp
            rw [if_pos rfl]
            by_cases c : ((q : Nat) : Int) ∈ pre
            · simp only [c, m, if_true]
              rw [Nat.or_assoc, Nat.or_self]
            · simp only [c, m, if_true, if_false]
          · rw [if_neg e]
            by_cases c : ((q : Nat) : Int) ∈ pre
            · rw [if_pos c, if_pos (by simp [c])]
            · rw [if_neg c, if_neg (by simp [c]; omega)]
        · rintro a st ⟨rfl, rfl⟩
          walk_at "v"
          exact ⟨_, rfl, rfl, by rw [onR, if_pos (by omega)]⟩
      · walk_at "v"
        exact ⟨_, rfl, rfl, by rw [onR, if_neg (by omega)]⟩
    · rintro a st ⟨rfl, rfl⟩
      walk_at "v"
      refine wo_app (by simp; omega) ?_
      walk_at "v"
      exact ⟨_, rfl, rfl, by rw [List.range_succ, List.map_append]; rfl⟩
  · rintro t st ⟨rfl, rfl⟩
    walk_at "v"
    exact ⟨rfl, rfl⟩
def whN (k : Nat) : Nat := 1 + ((List.range k).map mkN).sum
def diM (k : Nat) : Nat → Nat → Nat := fun i j => if i = j then whN k else 0
theorem sum_int : ∀ l : List Nat, (l.map fun i => ((i : Nat) : Int)).sum = (l.sum : Nat)
  | [] => rfl
  | a :: l => by rw [List.map_cons, List.sum_cons, sum_int l, List.sum_cons]; omega
theorem whN_lt : ∀ k, whN k < 2 ^ (2 * k + 1)
  | 0 => by decide
  | k + 1 => by
    have := whN_lt k
    unfold whN at this ⊢
    rw [List.range_succ, List.map_append, List.sum_append]
    have e : 2 ^ (2 * (k + 1) + 1) = 4 * 2 ^ (2 * k + 1) := by rw [show 2 * (k + 1) + 1 = (2 * k + 1) + 2 by omega, Nat.pow_add]; omega
    rw [e]
    simp only [List.map_cons, List.map_nil, List.sum_cons, List.sum_nil, mkN]
    omega
theorem whN_succ (k : Nat) : whN (k + 1) = whN k + 1 * mkN k := by
  unfold whN
  rw [List.range_succ, List.map_append, List.sum_append]
  simp only [List.map_cons, List.map_nil, List.sum_cons, List.sum_nil]; omega
theorem whN_bit (i : Nat) : ∀ k, (whN k).testBit (2 * i + 1) = decide (i < k) ∧ (whN k).testBit (2 * i + 2) = false
  | 0 => by
    have h : ∀ j, (1 : Nat).testBit (j + 1) = false := fun j => Nat.testBit_lt_two_pow (Nat.one_lt_two_pow (by omega))
    exact ⟨(h _).trans (by simp), h _⟩
  | k + 1 => by
    obtain ⟨h1, h2⟩ := whN_bit i k
    have z : ∀ j, 1 ≤ j → (1 : Nat).testBit j = false := fun j hj => Nat.testBit_lt_two_pow (Nat.one_lt_two_pow (by omega))
    rw [whN_succ, tb_add (whN_lt k), tb_add (whN_lt k)]
    by_cases c1 : i < k
    · rw [decide_eq_true (show 2 * i + 1 < 2 * k + 1 by omega), decide_eq_true (show 2 * i + 2 < 2 * k + 1 by omega), cond_true, cond_true, h1, h2]
      simp only [c1, show i < k + 1 by omega, and_self]
    · rw [decide_eq_false (show ¬ 2 * i + 1 < 2 * k + 1 by omega), decide_eq_false (show ¬ 2 * i + 2 < 2 * k + 1 by omega), cond_false, cond_false, z _ (show 1 ≤ 2 * i + 2 - (2 * k + 1) by omega)]
      by_cases c2 : i = k
      · subst c2
        simp
      · rw [z _ (by omega)]
        simp only [show ¬ i < k + 1 by omega, decide_false, and_self]
theorem whN_bit0 : ∀ k, (whN k).testBit 0 = true
  | 0 => by decide
  | k + 1 => by rw [whN_succ, tb_add (whN_lt k), decide_eq_true (show 0 < 2 * k + 1 by omega), cond_true, whN_bit0 k]
def alM (W : List (List Int)) (s t : Nat → Nat) (n k : Nat) (ls : List Int) : Nat → Nat → Nat := ls.foldl (fun M l => onM W s t n M l) (diM k)
theorem along_eq {n L s0 : Int} {W : List (List Int)} {kind : Str} {B : U} {G : List Dc} {k : Nat} {f g : Nat → Nat} {ls : List Int} (hG : GOk n W G) (hW : WOk n L W) (hl : W.length < 50000) (n0 : 1 ≤ n) (n1 : n ≤ 50) (hk : k ≤ 14) :
    m_Strides_along (stO (hallObj L n s0 W kind B G) n.toNat f g k) (.tup (ls.map .int)) = .ret (stepU n.toNat (alM W f g n.toNat k ls)) := by
  have sz : (1000000 : Nat) ≤ sizeLine := by decide
  have es : sumLU (.lst (fnL k mkN)) = some (.int (((List.range k).map mkN).sum : Nat)) := by
    have e : fnL k mkN = ((List.range k).map fun i => ((mkN i : Nat) : Int)).map .int := by unfold fnL; rw [List.map_map]; rfl
    rw [e]
    simp only [sumLU, intsL_map]
    rw [← sum_int, List.map_map]; rfl
  have hw : whN k < 2 ^ 62 := Nat.lt_of_lt_of_le (whN_lt k) (Nat.pow_le_pow_right (by omega) (by omega))
  refine eq_of_wp fun st => ?_
  unfold m_Strides_along
  walk_at "v"
  refine ⟨_, es, ?_⟩
  walk_at "v"
  refine ⟨by rw [List.length_map, List.length_range]; omega, ?_⟩
  have row : ∀ i : Nat, compM (fun _ => .ret true) (fun end_12 => (op2 mulU (.ret (.int (1 + (((List.range k).map mkN).sum : Nat)))) (op1 int1U (op2 eqU (.ret (.int (i : Nat))) (.ret end_12))))) ((List.range n.toNat).map fun i => U.int (i : Nat)) = .ret (fnL n.toNat (diM k i)) := fun i => by
    have := comp_map (wt := fun _ => M.ret true) (we := fun end_12 => (op2 mulU (.ret (.int (1 + (((List.range k).map mkN).sum : Nat)))) (op1 int1U (op2 eqU (.ret (.int (i : Nat))) (.ret end_12))))) (f := fun u => match u with | .int j => .int ((if (i : Int) = j then whN k else 0 : Nat) : Int) | u => u) (us := (List.range n.toNat).map fun i => U.int (i : Nat)) (fun u m => ⟨rfl, by
      obtain ⟨j, _, rfl⟩ := List.mem_map.mp m
      refine eq_of_wp fun st => ?_
      walk_at "v"
      have e : (1 + (((List.range k).map mkN).sum : Nat) : Int) = (whN k : Nat) := by unfold whN; omega
      rw [e]
      by_cases c : (i : Int) = (j : Int)
      · rw [decide_eq_true c]
        refine ⟨.int 1, rfl, ?_⟩
        refine ⟨.int ((whN k : Nat) * 1), by simp only [mulU]; exact if_pos (Or.inr (by omega)), ?_⟩
        refine ⟨?_, rfl⟩
        show U.int _ = U.int _
        rw [if_pos c]; congr 1; omega
      · rw [decide_eq_false c]
        refine ⟨.int 0, rfl, ?_⟩
        refine ⟨.int ((whN k : Nat) * 0), by simp only [mulU]; exact if_pos (Or.inr (by omega)), ?_⟩
        refine ⟨?_, rfl⟩
        show U.int _ = U.int _
        rw [if_neg c]; congr 1⟩)
    rw [this, List.map_map]
    congr 1
    unfold fnL
    refine List.map_congr_left fun j _ => ?_
    show U.int _ = U.int _
    unfold diM
    by_cases c : i = j
    · rw [if_pos (by omega), if_pos c]
    · rw [if_neg (by omega), if_neg c]
  have rows : compM (fun _ => .ret true) (fun room_10 => (op1 tupleU (lcW (itW (.ret (.lst ((List.range n.toNat).map fun i => U.int (i : Nat))))) (fun end_12 => (.ret true)) fun end_12 => (op2 mulU (.ret (.int (1 + (((List.range k).map mkN).sum : Nat)))) (op1 int1U (op2 eqU (.ret room_10) (.ret end_12))))))) ((List.range n.toNat).map fun i => U.int (i : Nat)) = .ret ((List.range n.toNat).map fun i => U.tup (fnL n.toNat (diM k i))) := by
    have := comp_map (wt := fun _ => M.ret true) (we := fun room_10 => (op1 tupleU (lcW (itW (.ret (.lst ((List.range n.toNat).map fun i => U.int (i : Nat))))) (fun end_12 => (.ret true)) fun end_12 => (op2 mulU (.ret (.int (1 + (((List.range k).map mkN).sum : Nat)))) (op1 int1U (op2 eqU (.ret room_10) (.ret end_12))))))) (f := fun u => match u with | .int j => .tup (fnL n.toNat (diM k j.toNat)) | u => u) (us := (List.range n.toNat).map fun i => U.int (i : Nat)) (fun u m => ⟨rfl, by
      obtain ⟨j, _, rfl⟩ := List.mem_map.mp m
      refine eq_of_wp fun st => ?_
      walk_at "v"
      refine vs_eq (row j) ⟨by rw [fnL_len]; omega, ?_⟩
      walk_at "v"
      exact ⟨rfl, rfl⟩⟩)
    rw [this, List.map_map]; rfl
  walk_at "v"
  refine vs_eq rows ⟨by rw [List.length_map, List.length_range]; omega, ?_⟩
  walk_at "v"
  refine vs_for (c := U.int) (e := fun M : Nat → Nat → Nat => stepU n.toNat M) (fun pre M st' => st' = st ∧ M = alM W f g n.toNat k pre) (t0 := diM k) rfl ⟨rfl, rfl⟩ ?_ ?_
  · rintro pre l post M st ex ⟨rfl, rfl⟩
    walk_at "v"
    refine vs_eq (onward_eq hG hW hl n0 n1) ?_
    walk_at "v"
    exact ⟨_, rfl, rfl, by unfold alM; rw [List.foldl_append]; rfl⟩
  · rintro M st ⟨rfl, rfl⟩
    walk_at "v"
    exact ⟨rfl, rfl⟩
theorem step_of_eq {n L s0 : Int} {W : List (List Int)} {kind : Str} {B : U} {G : List Dc} {P : PL} {ls : List Int} (hP : m_pairs_of (hallObj L n s0 W kind B G) = .ret (.tup (P.map pairU))) (hr : ∀ p ∈ P, Rs n p.1 ∧ Rs n p.2) (hB : ByOk n kind B) (pl : P.length ≤ 14) (hG : GOk n W G) (hW : WOk n L W) (hl : W.length < 50000) (n0 : 1 ≤ n) (n1 : n ≤ 50) :
    m_step_of (hallObj L n s0 W kind B G) (.tup (ls.map .int)) = .ret (stepU n.toNat (alM W (fun i => stA P (i : Nat) P.length) (fun i => riA P (i : Nat) P.length) n.toNat P.length ls)) := by
  refine eq_of_wp fun st => ?_
  unfold m_step_of
  walk_at "v"
  refine smk_at hP hr hB n0 n1 pl ?_
  walk_at "v"
  refine ⟨rfl, ?_⟩
  walk_at "v"
  refine vs_eq (along_eq hG hW hl n0 n1 (by omega)) ?_
  walk_at "v"
  exact ⟨rfl, rfl⟩

section
variable (W : List (List Int)) (A Gd : Int → Prop)
def Pt : List Int → Int → Int → Prop
  | [], r, e => r = e
  | l :: u, r, e => ∃ m, [r, l, m] ∈ W ∧ A m ∧ Pt u m e
def PtS : List Int → Int → Int → Prop
  | [], _, _ => False
  | l :: u, r, e => ∃ m, [r, l, m] ∈ W ∧ A m ∧ ((Gd m ∧ Pt W A u m e) ∨ PtS u m e)
end
section
variable {W : List (List Int)} {A Gd : Int → Prop}
theorem Pt_snoc {l e : Int} : ∀ {u : List Int} {r : Int}, Pt W A (u ++ [l]) r e ↔ ∃ m, Pt W A u r m ∧ [m, l, e] ∈ W ∧ A e
  | [], r => ⟨fun ⟨m, h1, h2, h3⟩ => by cases h3; exact ⟨r, rfl, h1, h2⟩, fun ⟨m, h1, h2, h3⟩ => by cases h1; exact ⟨e, h2, h3, rfl⟩⟩
  | a :: u, r => ⟨fun ⟨m, h1, h2, h3⟩ => by
      obtain ⟨q, q1, q2⟩ := Pt_snoc.mp h3
      exact ⟨q, ⟨m, h1, h2, q1⟩, q2⟩, fun ⟨q, ⟨m, h1, h2, q1⟩, q2⟩ => ⟨m, h1, h2, Pt_snoc.mpr ⟨q, q1, q2⟩⟩⟩
theorem PtS_snoc {l e : Int} : ∀ {u : List Int} {r : Int}, PtS W A Gd (u ++ [l]) r e ↔ ∃ m, [m, l, e] ∈ W ∧ A e ∧ (PtS W A Gd u r m ∨ (Pt W A u r m ∧ Gd e))
  | [], r => by
    constructor
    · rintro ⟨m, h1, h2, h3 | h3⟩
      · cases h3.2; exact ⟨r, h1, h2, .inr ⟨rfl, h3.1⟩⟩
      · exact h3.elim
    · rintro ⟨m, h1, h2, h3 | h3⟩
      · exact h3.elim
      · cases h3.1; exact ⟨e, h1, h2, .inl ⟨h3.2, rfl⟩⟩
  | a :: u, r => by
    constructor
    · rintro ⟨m, h1, h2, h3 | h3⟩
      · obtain ⟨q, q1, q2, q3⟩ := Pt_snoc.mp h3.2
        exact ⟨q, q2, q3, .inl ⟨m, h1, h2, .inl ⟨h3.1, q1⟩⟩⟩
      · obtain ⟨q, q1, q2, q3⟩ := PtS_snoc.mp h3
        refine ⟨q, q1, q2, q3.imp (fun z => ⟨m, h1, h2, .inr z⟩) fun z => ⟨⟨m, h1, h2, z.1⟩, z.2⟩⟩
    · rintro ⟨q, q1, q2, q3⟩
      rcases q3 with ⟨m, h1, h2, h3 | h3⟩ | ⟨⟨m, h1, h2, h3⟩, g⟩
      · exact ⟨m, h1, h2, .inl ⟨h3.1, Pt_snoc.mpr ⟨q, h3.2, q1, q2⟩⟩⟩
      · exact ⟨m, h1, h2, .inr (PtS_snoc.mpr ⟨q, q1, q2, .inl h3⟩)⟩
      · exact ⟨m, h1, h2, .inr (PtS_snoc.mpr ⟨q, q1, q2, .inr ⟨h3, g⟩⟩)⟩
theorem PtS.pt : ∀ {u : List Int} {r e : Int}, PtS W A Gd u r e → Pt W A u r e
  | [], _, _, h => h.elim
  | a :: u, r, e, ⟨m, h1, h2, h3⟩ => ⟨m, h1, h2, h3.elim (·.2) PtS.pt⟩
theorem Pt.any : ∀ {u : List Int} {r e : Int}, Pt W A u r e → Pt W (fun _ => True) u r e
  | [], _, _, h => h
  | a :: u, r, e, ⟨m, h1, h2, h3⟩ => ⟨m, h1, trivial, Pt.any h3⟩
end
theorem dbl_bit (y j : Nat) : (2 * y).testBit j = (decide (1 ≤ j) && y.testBit (j - 1)) := by
  have := @Nat.testBit_two_pow_mul 1 y j
  rw [show 2 ^ 1 * y = 2 * y by omega] at this
  rw [this]
theorem ent_bit (s t x j : Nat) : (ent s t x).testBit j = ((x.testBit j && s.testBit j) || (decide (1 ≤ j) && (x.testBit (j - 1) && s.testBit (j - 1) && t.testBit (j - 1)))) := by
  unfold ent
  rw [Nat.testBit_or, Nat.testBit_and, dbl_bit, Nat.testBit_and, Nat.testBit_and]
theorem onR_bit {W : List (List Int)} {s t f : Nat → Nat} {l : Int} {e j : Nat} : ∀ K, (onR W s t f l K e).testBit j = true ↔ ∃ r, r < K ∧ [((r : Nat) : Int), l, ((e : Nat) : Int)] ∈ W ∧ (ent (s e) (t e) (f r)).testBit j = true
  | 0 => by
    constructor
    · intro h; rw [onR] at h; simp at h
    · rintro ⟨r, h, _⟩; omega
  | K + 1 => by
    have ih := onR_bit (W := W) (s := s) (t := t) (f := f) (l := l) (e := e) (j := j) K
    have z : (ent (s e) (t e) 0).testBit j = false := by rw [ent_bit]; simp
    rw [onR]
    by_cases c : 0 < f K
    · rw [if_pos c]
      unfold onE
      by_cases m : ((e : Nat) : Int) ∈ endsOf W (K : Nat) l
      · rw [if_pos m, Nat.testBit_or, Bool.or_eq_true, ih]
        constructor
        · rintro (⟨r, h1, h2⟩ | h)
          · exact ⟨r, by omega, h2⟩
          · exact ⟨K, by omega, mem_endsS.mp m, h⟩
        · rintro ⟨r, h1, h2, h3⟩
          by_cases q : r = K
          · subst q; exact .inr h3
          · exact .inl ⟨r, by omega, h2, h3⟩
      · rw [if_neg m, ih]
        constructor
        · rintro ⟨r, h1, h2⟩; exact ⟨r, by omega, h2⟩
        · rintro ⟨r, h1, h2, h3⟩
          refine ⟨r, ?_, h2, h3⟩
          rcases Nat.lt_or_ge r K with q | q
          · exact q
          · have : r = K := by omega
            subst this
            exact absurd (mem_endsS.mpr h2) m
    · rw [if_neg c, ih]
      constructor
      · rintro ⟨r, h1, h2⟩; exact ⟨r, by omega, h2⟩
      · rintro ⟨r, h1, h2, h3⟩
        refine ⟨r, ?_, h2, h3⟩
        rcases Nat.lt_or_ge r K with q | q
        · exact q
        · have : r = K := by omega
          subst this
          rw [show f r = 0 by omega, z] at h3
          cases h3
section
variable {W : List (List Int)} {n L : Int} {P : PL} {ls : List Int}
abbrev sF (P : PL) : Nat → Nat := fun i => stA P (i : Nat) P.length
abbrev rF (P : PL) : Nat → Nat := fun i => riA P (i : Nat) P.length
abbrev stepM (W : List (List Int)) (P : PL) (N : Nat) (ls : List Int) : Nat → Nat → Nat := alM W (sF P) (rF P) N P.length ls
theorem ent_b0 {e x : Nat} : (ent (sF P e) (rF P e) x).testBit 0 = x.testBit 0 := by
  rw [ent_bit, stA_bit0]; simp
theorem ent_b1 {e x k : Nat} : (ent (sF P e) (rF P e) x).testBit (2 * k + 1) = (x.testBit (2 * k + 1) && decide (k < P.length ∧ ((e : Nat) : Int) ∉ nvP P k)) := by
  rw [ent_bit, (stA_bit P _ k _).1, show 2 * k + 1 - 1 = 2 * k by omega, (riA_bit P _ k _).2]; simp
theorem ent_b2 {e x k : Nat} : (ent (sF P e) (rF P e) x).testBit (2 * k + 2) = true ↔ k < P.length ∧ ((e : Nat) : Int) ∉ nvP P k ∧ (x.testBit (2 * k + 2) = true ∨ x.testBit (2 * k + 1) = true ∧ ((e : Nat) : Int) ∈ ofP P k) := by
  rw [ent_bit, (stA_bit P _ k _).2, show 2 * k + 2 - 1 = 2 * k + 1 by omega, (riA_bit P _ k _).1, (stA_bit P _ k _).1]
  simp only [Bool.or_eq_true, Bool.and_eq_true, decide_eq_true_eq]
  constructor
  · rintro (⟨h1, h2, h3⟩ | ⟨_, ⟨h1, h2⟩, h3, h4, h5⟩)
    · exact ⟨h2, h3, .inl h1⟩
    · exact ⟨h3, h5, .inr ⟨h1, h4⟩⟩
  · rintro ⟨h1, h2, h3 | ⟨h3, h4⟩⟩
    · exact .inl ⟨h3, h1, h2⟩
    · exact .inr ⟨by omega, ⟨h3, h1, h2⟩, h1, h4, h2⟩
theorem wok_nat (hW : WOk n L W) {r l e : Int} (h : [r, l, e] ∈ W) : 0 ≤ r ∧ r < n ∧ 0 ≤ e ∧ e < n := by
  obtain ⟨a, b, c, ew, a0, a1, _, _, c0, c1⟩ := hW.1 _ h
  cases ew
  exact ⟨a0, a1, c0, c1⟩
theorem stepM_bits (hW : WOk n L W) : ∀ ls : List Int, ∀ (i e : Nat), i < n.toNat → e < n.toNat →
    ((stepM W P n.toNat ls i e).testBit 0 = true ↔ Pt W (fun _ => True) ls (i : Nat) (e : Nat)) ∧
    (∀ k, (stepM W P n.toNat ls i e).testBit (2 * k + 1) = true ↔ k < P.length ∧ Pt W (· ∉ nvP P k) ls (i : Nat) (e : Nat)) ∧
    (∀ k, (stepM W P n.toNat ls i e).testBit (2 * k + 2) = true ↔ k < P.length ∧ PtS W (· ∉ nvP P k) (· ∈ ofP P k) ls (i : Nat) (e : Nat)) := by
  refine snoc_ind ?_ ?_
  · intro i e hi he
    show ((diM P.length i e).testBit 0 = true ↔ _) ∧ (∀ k, (diM P.length i e).testBit (2 * k + 1) = true ↔ _) ∧ (∀ k, (diM P.length i e).testBit (2 * k + 2) = true ↔ _)
    unfold diM
    by_cases c : i = e
    · subst c
      rw [if_pos rfl]
      refine ⟨?_, fun k => ?_, fun k => ?_⟩
      · rw [whN_bit0]; simp [Pt]
      · rw [(whN_bit k _).1, decide_eq_true_eq]; simp [Pt]
      · rw [(whN_bit k _).2]; simp [PtS]
    · rw [if_neg c]
      have c' : ¬ (i : Int) = (e : Int) := by omega
      refine ⟨?_, fun k => ?_, fun k => ?_⟩
      · simp only [Pt, Nat.zero_testBit, Bool.false_eq_true, false_iff]; exact c'
      · simp only [Pt, Nat.zero_testBit, Bool.false_eq_true, false_iff]; exact fun z => c' z.2
      · simp [PtS]
  · intro u l ih i e hi he
    have em : stepM W P n.toNat (u ++ [l]) i e = onR W (sF P) (rF P) (stepM W P n.toNat u i) l n.toNat e := by
      unfold stepM alM
      rw [List.foldl_append]; rfl
    have lift : ∀ {m : Int}, [m, l, ((e : Nat) : Int)] ∈ W → ∃ r : Nat, m = (r : Int) ∧ r < n.toNat := fun h => by
      obtain ⟨m0, m1, _, _⟩ := wok_nat hW h
      exact ⟨_, (Int.toNat_of_nonneg m0).symm, by omega⟩
    rw [em]
    refine ⟨?_, fun k => ?_, fun k => ?_⟩
    · rw [onR_bit, Pt_snoc]
      constructor
      · rintro ⟨r, hr, h1, h2⟩
        rw [ent_b0] at h2
        exact ⟨_, (ih i r hi hr).1.mp h2, h1, trivial⟩
      · rintro ⟨m, h1, h2, -⟩
        obtain ⟨r, rfl, hr⟩ := lift h2
        exact ⟨r, hr, h2, by rw [ent_b0]; exact (ih i r hi hr).1.mpr h1⟩
    · rw [onR_bit, Pt_snoc]
      constructor
      · rintro ⟨r, hr, h1, h2⟩
        rw [ent_b1, Bool.and_eq_true, decide_eq_true_eq] at h2
        obtain ⟨h2, h3, h4⟩ := h2
        exact ⟨h3, _, (((ih i r hi hr).2.1 k).mp h2).2, h1, h4⟩
      · rintro ⟨hk, m, h1, h2, h3⟩
        obtain ⟨r, rfl, hr⟩ := lift h2
        exact ⟨r, hr, h2, by rw [ent_b1, Bool.and_eq_true, decide_eq_true_eq]; exact ⟨((ih i r hi hr).2.1 k).mpr ⟨hk, h1⟩, hk, h3⟩⟩
    · rw [onR_bit, PtS_snoc]
      constructor
      · rintro ⟨r, hr, h1, h2⟩
        obtain ⟨h3, h4, h5⟩ := ent_b2.mp h2
        refine ⟨h3, _, h1, h4, ?_⟩
        rcases h5 with h5 | ⟨h5, h6⟩
        · exact .inl (((ih i r hi hr).2.2 k).mp h5).2
        · exact .inr ⟨(((ih i r hi hr).2.1 k).mp h5).2, h6⟩
      · rintro ⟨hk, m, h1, h2, h3⟩
        obtain ⟨r, rfl, hr⟩ := lift h1
        refine ⟨r, hr, h1, ent_b2.mpr ⟨hk, h2, ?_⟩⟩
        rcases h3 with h3 | ⟨h3, h4⟩
        · exact .inl (((ih i r hi hr).2.2 k).mpr ⟨hk, h3⟩)
        · exact .inr ⟨((ih i r hi hr).2.1 k).mpr ⟨hk, h3⟩, h4⟩
theorem stepM_pos (hW : WOk n L W) {i e : Nat} (hi : i < n.toNat) (he : e < n.toNat) : 0 < stepM W P n.toNat ls i e ↔ Pt W (fun _ => True) ls (i : Nat) (e : Nat) := by
  obtain ⟨h0, h1, h2⟩ := stepM_bits (P := P) hW ls i e hi he
  constructor
  · intro h
    obtain ⟨j, hj⟩ := Nat.exists_testBit_of_ne_zero (x := stepM W P n.toNat ls i e) (by omega)
    match j with
    | 0 => exact h0.mp hj
    | j + 1 =>
      rcases Nat.mod_two_eq_zero_or_one j with q | q
      · obtain ⟨k, rfl⟩ : ∃ k, j = 2 * k := ⟨j / 2, by omega⟩
        exact ((h1 k).mp hj).2.any
      · obtain ⟨k, rfl⟩ : ∃ k, j = 2 * k + 1 := ⟨j / 2, by omega⟩
        exact ((h2 k).mp hj).2.pt.any
  · intro h
    have := h0.mpr h
    rcases Nat.eq_zero_or_pos (stepM W P n.toNat ls i e) with z | z
    · rw [z] at this; simp at this
    · exact z
end

theorem idx_int {r : Int} : ∀ {ks : List Int}, (idxK (Sum.inl r : Key) (ks.map Sum.inl) = none ∧ r ∉ ks) ∨ ∃ j, idxK (Sum.inl r : Key) (ks.map Sum.inl) = some j ∧ j < ks.length ∧ r ∈ ks
  | [] => .inl ⟨rfl, fun m => nomatch m⟩
  | k :: ks => by
    rw [List.map_cons, idxK]
    by_cases z : (Sum.inl k : Key) = Sum.inl r
    · rw [if_pos z]
      exact .inr ⟨0, rfl, by simp, by cases z; exact List.mem_cons_self⟩
    · rw [if_neg z]
      rcases idx_int (r := r) (ks := ks) with ⟨e, n⟩ | ⟨j, e, l, m⟩
      · refine .inl ⟨by rw [e]; rfl, fun m => ?_⟩
        rcases List.mem_cons.mp m with e2 | m
        · exact z (by rw [e2])
        · exact n m
      · exact .inr ⟨j + 1, by rw [e]; rfl, by simpa using l, List.mem_cons_of_mem _ m⟩
inductive RT {α : Type} (R : α → α → Prop) (x : α) : α → Prop where
  | refl : RT R x x
  | tail {y z : α} (h : RT R x y) (r : R y z) : RT R x z
theorem RT.trans {α : Type} {R : α → α → Prop} {x y z : α} (h : RT R x y) (g : RT R y z) : RT R x z := by
  induction g with
  | refl => exact h
  | tail _ r ih => exact ih.tail r
theorem RT.mono {α : Type} {R R' : α → α → Prop} (f : ∀ x y, R x y → R' x y) {x y : α} (h : RT R x y) : RT R' x y := by
  induction h with
  | refl => exact .refl
  | tail _ r ih => exact ih.tail (f _ _ r)
structure Df (n : Int) (R : Int → Int → Prop) (S : List Int) (ex : Option Int) (fd wt : List Int) : Prop where
  nd : fd.Nodup
  rg : ∀ x ∈ fd, 0 ≤ x ∧ x < n
  wk : ∀ x ∈ wt, x ∈ fd
  s0 : ∀ x ∈ S, x ∈ fd
  sd : ∀ x ∈ fd, ∃ s ∈ S, RT R s x
  cl : ∀ x ∈ fd, x ∉ wt → some x ≠ ex → ∀ y, R x y → y ∈ fd
section
variable {n : Int} {R : Int → Int → Prop} {S fd wt : List Int} {x y : Int}
theorem Df.init (nd : S.Nodup) (rg : ∀ x ∈ S, 0 ≤ x ∧ x < n) : Df n R S none S S := ⟨nd, rg, fun _ h => h, fun _ h => h, fun x m => ⟨x, m, .refl⟩, fun x m h => absurd m h⟩
theorem Df.push (h : Df n R S (some x) fd wt) (hx : x ∈ fd) (hy : y ∉ fd) (y0 : 0 ≤ y ∧ y < n) (r : R x y) : Df n R S (some x) (fd ++ [y]) (wt ++ [y]) := by
  refine ⟨List.nodup_append.mpr ⟨h.nd, List.pairwise_singleton _ _, fun a ma b mb e => hy (by rw [List.mem_singleton] at mb; rw [← mb, ← e]; exact ma)⟩, fun z m => ?_, fun z m => ?_, fun z m => List.mem_append_left _ (h.s0 z m), fun z m => ?_, fun z m hw ne w rw' => ?_⟩
  · rcases List.mem_append.mp m with m | m
    · exact h.rg z m
    · rw [List.mem_singleton.mp m]; exact y0
  · rcases List.mem_append.mp m with m | m
    · exact List.mem_append_left _ (h.wk z m)
    · exact List.mem_append_right _ m
  · rcases List.mem_append.mp m with m | m
    · exact h.sd z m
    · obtain ⟨s, ms, rs⟩ := h.sd x hx
      rw [List.mem_singleton.mp m]; exact ⟨s, ms, rs.tail r⟩
  · rcases List.mem_append.mp m with m | m
    · exact List.mem_append_left _ (h.cl z m (fun q => hw (List.mem_append_left _ q)) ne w rw')
    · exact absurd (List.mem_append_right _ m) hw
theorem Df.done (h : Df n R S none fd []) : x ∈ fd ↔ ∃ s ∈ S, RT R s x := by
  have key : ∀ s, s ∈ S → ∀ x, RT R s x → x ∈ fd := fun s ms x r => by
    induction r with
    | refl => exact h.s0 s ms
    | tail _ r ih => exact h.cl _ ih (fun z => nomatch z) (fun z => nomatch z) _ r
  exact ⟨h.sd x, fun ⟨s, ms, r⟩ => key s ms x r⟩
theorem Df.len (h : Df n R S none fd wt) : fd.length ≤ n.toNat := nodup_len _ _ h.nd fun x m => by have := h.rg x m; omega
end
open Classical in
noncomputable section
theorem boolsS : ∀ bs : List Bool, boolsU (bs.map U.bl) = some bs
  | [] => rfl
  | b :: bs => by rw [List.map_cons, boolsU, boolsS bs]; rfl
theorem any_atS (bs : List Bool) : anyU (.lst (bs.map .bl)) = some (.bl (bs.any id)) := by
  show (boolsU (bs.map .bl)).map _ = _
  rw [boolsS]; rfl
end

def nxt (b c : List Int) (s : Int) : Int := if s + 1 < ((b ++ c).length : Int) then s + 1 else (b.length : Nat)
def sgn (b c : List Int) (s : Int) : Int := (b ++ c).getD s.toNat 0
def onw (W : List (List Int)) (b c : List Int) (s r : Int) : List (List Int) := (endsOf W r (sgn b c s)).map fun e => [nxt b c s, e]
def Nd (N n : Int) (x : List Int) : Prop := ∃ a b : Int, x = [a, b] ∧ 0 ≤ a ∧ a < N ∧ 0 ≤ b ∧ b < n
inductive Rc (R : List Int → List Int → Prop) (x : List Int) : List Int → Prop where
  | one {y : List Int} (h : R x y) : Rc R x y
  | more {y z : List Int} (h : Rc R x y) (h2 : R y z) : Rc R x z
def Stp (W : List (List Int)) (b c bar : List Int) (x y : List Int) : Prop := ∃ s r e : Int, x = [s, r] ∧ y = [nxt b c s, e] ∧ e ∈ endsOf W r (sgn b c s) ∧ e ∉ bar
def cd2 (n : Int) : List Int → Int
  | [a, b] => a * n + b
  | _ => 0
theorem cd2_inj {n a b c d : Int} (b0 : 0 ≤ b) (b1 : b < n) (d0 : 0 ≤ d) (d1 : d < n) (e : a * n + b = c * n + d) : a = c ∧ b = d := by
  have h1 : a = c := by
    rcases Int.lt_trichotomy a c with h | h | h
    · have : (a + 1) * n ≤ c * n := Int.mul_le_mul_of_nonneg_right (by omega) (by omega)
      rw [Int.add_mul] at this; omega
    · exact h
    · have : (c + 1) * n ≤ a * n := Int.mul_le_mul_of_nonneg_right (by omega) (by omega)
      rw [Int.add_mul] at this; omega
  subst h1
  exact ⟨rfl, by omega⟩
theorem nd_len {N n : Int} {l : List (List Int)} (h : ∀ x ∈ l, Nd N n x) (nd : l.Nodup) : l.length ≤ (N * n).toNat := by
  have h1 : (l.map (cd2 n)).Nodup := by
    refine List.pairwise_map.mpr (nd.imp_of_mem fun {x y} mx my ne e => ne ?_)
    obtain ⟨a, b, rfl, _, _, b0, b1⟩ := h x mx
    obtain ⟨c, d, rfl, _, _, d0, d1⟩ := h y my
    obtain ⟨h1, h2⟩ := cd2_inj b0 b1 d0 d1 e
    rw [h1, h2]
  have := nodup_len (N * n).toNat (l.map (cd2 n)) h1 fun z m => by
    obtain ⟨x, mx, rfl⟩ := List.mem_map.mp m
    obtain ⟨a, b, rfl, a0, a1, b0, b1⟩ := h x mx
    simp only [cd2]
    have h2 : (a + 1) * n ≤ N * n := Int.mul_le_mul_of_nonneg_right (by omega) (by omega)
    have h3 : 0 ≤ a * n := Int.mul_nonneg a0 (by omega)
    rw [Int.add_mul] at h2
    omega
  rwa [List.length_map] at this

abbrev Cm : Type := List (List Int × List Int)
abbrev kys (D : Cm) : List (List Int) := D.map Prod.fst
structure Wk (N n : Int) (R : List Int → List Int → Prop) (f : List Int) (ex : Option (List Int)) (ws : List (List Int)) (D : Cm) : Prop where
  nd : (kys D).Nodup
  ok : ∀ x ∈ kys D, Nd N n x
  wk : ∀ x ∈ ws, Nd N n x ∧ (x = f ∨ x ∈ kys D)
  od : ∀ (i : Nat) (x p : List Int), D[i]? = some (x, p) → R p x ∧ (p = f ∨ p ∈ kys (D.take i))
  cl : ∀ x, (x = f ∨ x ∈ kys D) → x ∉ ws → some x ≠ ex → ∀ y, R x y → y ∈ kys D
theorem Wk.len {N n : Int} {R : List Int → List Int → Prop} {f : List Int} {ex : Option (List Int)} {ws : List (List Int)} {D : Cm} (h : Wk N n R f ex ws D) : D.length ≤ (N * n).toNat := by
  have := nd_len h.ok h.nd
  rwa [List.length_map] at this
theorem Wk.put {N n : Int} {R : List Int → List Int → Prop} {f x y : List Int} {ws : List (List Int)} {D : Cm} (h : Wk N n R f (some x) ws D) (hx : x = f ∨ x ∈ kys D) (hy : Nd N n y) (no : y ∉ kys D) (r : R x y) : Wk N n R f (some x) (ws ++ [y]) (D ++ [(y, x)]) := by
  have hk : kys (D ++ [(y, x)]) = kys D ++ [y] := by simp [kys]
  refine ⟨?_, fun z m => ?_, fun z m => ?_, fun i z p e => ?_, fun z hz hw ne v rv => ?_⟩
  · rw [hk]
    exact List.nodup_append.mpr ⟨h.nd, List.pairwise_singleton _ _, fun a ma b mb e => no (by rw [List.mem_singleton] at mb; rw [← mb, ← e]; exact ma)⟩
  · rw [hk] at m
    rcases List.mem_append.mp m with m | m
    · exact h.ok z m
    · rw [List.mem_singleton.mp m]; exact hy
  · rw [hk]
    rcases List.mem_append.mp m with m | m
    · exact ⟨(h.wk z m).1, (h.wk z m).2.imp id fun q => List.mem_append_left _ q⟩
    · rw [List.mem_singleton.mp m]; exact ⟨hy, .inr (List.mem_append_right _ List.mem_cons_self)⟩
  · by_cases hi : i < D.length
    · rw [List.getElem?_append_left hi] at e
      rw [List.take_append_of_le_length (Nat.le_of_lt hi)]
      exact h.od i z p e
    · have hi2 : i = D.length := by
        have := (List.getElem?_eq_some_iff.mp e).1
        rw [List.length_append, List.length_singleton] at this
        omega
      subst hi2
      rw [List.getElem?_append_right (Nat.le_refl _), Nat.sub_self] at e
      cases e
      rw [List.take_append_of_le_length (Nat.le_refl _), List.take_length]
      exact ⟨r, hx⟩
  · rw [hk] at hz ⊢
    refine List.mem_append_left _ (h.cl z ?_ (fun q => hw (List.mem_append_left _ q)) ne v rv)
    rcases hz with hz | hz
    · exact .inl hz
    · rcases List.mem_append.mp hz with hz | hz
      · exact .inr hz
      · exact absurd (by rw [List.mem_singleton.mp hz]; exact List.mem_append_right _ List.mem_cons_self) hw

section
variable {N n : Int} {R : List Int → List Int → Prop} {f x : List Int} {ws : List (List Int)} {D : Cm}
end
abbrev Ow : Type := List (List Int × List (List Int))
def onN (W : List (List Int)) (b c : List Int) : List Int → List (List Int)
  | [s, r] => onw W b c s r
  | _ => []
structure Nt (N n : Int) (W : List (List Int)) (b c : List Int) (f : List Int) (ws : List (List Int)) (D : Ow) : Prop where
  wk : ∀ x ∈ ws, Nd N n x ∧ (x = f ∨ Rc (Stp W b c []) f x)
  nd : (D.map Prod.fst).Nodup
  ok : ∀ p ∈ D, Nd N n p.1 ∧ (p.1 = f ∨ Rc (Stp W b c []) f p.1) ∧ p.2 = onN W b c p.1
  cl : ∀ p ∈ D, ∀ y ∈ p.2, y ∈ D.map Prod.fst ∨ y ∈ ws
  st : f ∈ D.map Prod.fst ∨ f ∈ ws
section
variable {N n : Int} {W : List (List Int)} {b c f : List Int} {D : Ow}
theorem Nt.len {ws : List (List Int)} (h : Nt N n W b c f ws D) : D.length ≤ (N * n).toNat := by
  have := nd_len (l := D.map Prod.fst) (fun x m => by obtain ⟨p, mp, rfl⟩ := List.mem_map.mp m; exact (h.ok p mp).1) h.nd
  rwa [List.length_map] at this
end

theorem enumL_ints (rk : List Int) : enumL (rk.map .int) = (List.range rk.length).map fun i => U.tup [.int (i : Nat), .int (rk.getD i 0)] := by
  refine List.ext_getElem? fun i => ?_
  by_cases hi : i < rk.length
  · unfold enumL
    rw [List.getElem?_zipWith, List.length_map, List.getElem?_range hi, List.getElem?_map, List.getElem?_map, List.getElem?_range hi, List.getElem?_eq_getElem hi]
    simp [List.getD, hi]
  · rw [List.getElem?_eq_none (by rw [enumL_len, List.length_map]; omega), List.getElem?_eq_none (by rw [List.length_map, List.length_range]; omega)]
abbrev cI (i : Nat) : U := .int (i : Nat)
def pick' (m : Nat) (p : Nat → Bool) : List Int := ((List.range m).filter p).map fun i : Nat => (i : Int)
theorem pick'_map (m : Nat) (p : Nat → Bool) : ((List.range m).filter p).map cI = (pick' m p).map .int := by unfold pick'; rw [List.map_map]; rfl
def evens (rk : List Int) : List Int := sortD (rk.filter fun r => decide (r.fmod 2 = 0))
def rkPairs (rk : List Int) : List (List Int × List Int) := (evens rk).map fun r => (pick' rk.length fun i => decide (r < rk.getD i 0), pick' rk.length fun i => decide (rk.getD i 0 = r))
theorem even_comp (rk : List Int) : compM (fun one => testW (op2 eqU (op2 modU (.ret one) (.ret (.int 2))) (.ret (.int 0)))) (fun one => .ret one) (rk.map .int) = .ret ((rk.filter fun r => decide (r.fmod 2 = 0)).map .int) := by
  have := comp_eq (c := U.int) (d := U.int) (p := fun r : Int => decide (r.fmod 2 = 0)) (g := id) (xs := rk) (wt := fun one => testW (op2 eqU (op2 modU (.ret one) (.ret (.int 2))) (.ret (.int 0)))) (we := fun one => .ret one) fun x m => ⟨by
    show M.bind (M.bind (M.o (modU (.int x) (.int 2))) fun a => M.o (eqU a (.int 0))) _ = _
    rw [mod_at (by decide)]
    show M.bind (M.o (eqU (.int (x.fmod 2)) (.int 0))) _ = _
    rw [eqU_int]; rfl, fun _ => rfl⟩
  rw [this, List.map_id]
theorem evens_len (rk : List Int) : (evens rk).length ≤ rk.length := by
  unfold evens sortD
  rw [List.length_mergeSort]
  have h1 := ddI_len (rk.filter fun r => decide (r.fmod 2 = 0))
  have h2 := List.length_filter_le (fun r : Int => decide (r.fmod 2 = 0)) rk
  omega
theorem sortD_at {ns : List Int} (h : ns.length < 64) : sortDU (.lst (ns.map .int)) = some (.lst ((sortD ns).map .int)) := by
  have := ddI_len ns
  simp only [sortDU, intsL_map]
  rw [if_pos (by omega)]
theorem sortSI_at {ns : List Int} (h : ns.length < 64) : sortSIU (.lst (ns.map .int)) = some (.lst ((sortD ns).map .int)) := by
  have := ddI_len ns
  simp only [sortSIU, intsL_map]
  rw [if_pos (by omega)]
theorem pairs_ranks_eq {rk : List Int} (hl : rk.length < 60) : m_pairs_of_ranks (.tup (rk.map .int)) = .ret (.tup ((rkPairs rk).map pairU)) := by
  have sz : (1000 : Nat) ≤ sizeLine := by decide
  refine eq_of_wp fun st => ?_
  unfold m_pairs_of_ranks
  walk_at "v"
  refine vs_eq (even_comp rk) ⟨?_, ?_⟩
  · have h2 := List.length_filter_le (fun r : Int => decide (r.fmod 2 = 0)) rk
    rw [List.length_map]; omega
  refine wo_eq (sortD_at (by have h2 := List.length_filter_le (fun r : Int => decide (r.fmod 2 = 0)) rk; omega)) ?_
  walk_at "v"
  have el := evens_len rk
  refine vs_for (c := U.int) (e := fun f : List (List Int × List Int) => U.lst (f.map pairU)) (t0 := []) (fun pre f st' => f = pre.map (fun r => (pick' rk.length fun i => decide (r < rk.getD i 0), pick' rk.length fun i => decide (rk.getD i 0 = r))) ∧ st' = st) rfl ⟨rfl, rfl⟩ ?_ ?_
  · rintro pre r post _ st ex ⟨rfl, rfl⟩
    have hpl : pre.length < 60 := by
      have := congrArg List.length ex
      rw [List.length_append, List.length_cons] at this
      have : (sortD (rk.filter fun r => decide (r.fmod 2 = 0))).length ≤ rk.length := el
      omega
    have fl : ∀ p : Nat → Bool, ((List.range rk.length).filter p).length ≤ 60 := fun p => by
      have := List.length_filter_le p (List.range rk.length)
      rw [List.length_range] at this; omega
    walk_at "v"
    rw [enumL_ints]
    refine vs_eq (comp_eq (d := cI) (g := id) (p := fun i => decide (r < rk.getD i 0)) (xs := List.range rk.length) fun x _ => ⟨rfl, fun _ => rfl⟩) ⟨?_, ?_⟩
    · rw [List.length_map, List.length_map]; have := fl (fun i => decide (r < rk.getD i 0)); omega
    walk_at "v"
    rw [enumL_ints]
    refine vs_eq (comp_eq (d := cI) (g := id) (p := fun i => decide (rk.getD i 0 = r)) (xs := List.range rk.length) fun x _ => ⟨?_, fun _ => rfl⟩) ⟨?_, ?_⟩
    · show M.bind (M.o (eqU (.int (rk.getD x 0)) (.int r))) (fun a => M.o (boolU a)) = _
      rw [eqU_int]; rfl
    · rw [List.length_map, List.length_map]; have := fl (fun i => decide (rk.getD i 0 = r)); omega
    walk_at "v"
    refine wo_app (by rw [List.length_map, List.length_map]; omega) ?_
    walk_at "v"
    refine ⟨_, ?_, rfl, rfl⟩
    rw [List.map_id, List.map_id, pick'_map, pick'_map, List.map_append, List.map_append]
    rfl
  · rintro _ st ⟨rfl, rfl⟩
    walk_at "v"
    exact ⟨rfl, rfl⟩
inductive POf (n : Int) : Str → U → List (List Int × List Int) → Prop where
  | again {rs : List Int} (h : Rs n rs) : POf n "again" (.tup (rs.map .int)) [([], rs)]
  | last {rs : List Int} (h : Rs n rs) : POf n "at last" (.tup (rs.map .int)) [((rngI n).filter (fun r => !decide (r ∈ rs)), rngI n)]
  | pairs {ps : List (List Int × List Int)} (h : ∀ p ∈ ps, Rs n p.1 ∧ Rs n p.2) : POf n "pairs" (.tup (ps.map pairU)) ps
  | ranks {rk : List Int} (l : (rk.length : Int) = n) (h : ∀ r ∈ rk, 0 ≤ r) : POf n "ranks" (.tup (rk.map .int)) (rkPairs rk)
theorem rngI_len (n : Int) : (rngI n).length = n.toNat := by unfold rngI; rw [List.length_map, List.length_range]
theorem notin_comp {xs ys : List Int} : compM (fun room => testW (op2 notInSU (.ret room) (.ret (.tup (ys.map .int))))) (fun room => .ret room) (xs.map .int) = .ret ((xs.filter fun r => !decide (r ∈ ys)).map .int) := by
  have := comp_eq (c := U.int) (d := U.int) (p := fun r : Int => !decide (r ∈ ys)) (g := id) (xs := xs) (wt := fun room => testW (op2 notInSU (.ret room) (.ret (.tup (ys.map .int))))) (we := fun one => .ret one) fun x m => ⟨by
    show M.bind (M.o (notInSU (.int x) (.tup (ys.map .int)))) (fun a => M.o (boolU a)) = _
    unfold notInSU
    rw [inB_t]; rfl, fun _ => rfl⟩
  rw [this, List.map_id]
theorem pairs_of_eq {n L s : Int} {W : List (List Int)} {kind : Str} {B : U} {G : List Dc} (hB : ByOk n kind B) (n0 : 1 ≤ n) (n1 : n ≤ 50) :
    ∃ ps, (POf n kind B ps ∧ ps.length < 100) ∧ m_pairs_of (hallObj L n s W kind B G) = .ret (.tup (ps.map pairU)) := by
  have sz : (1000 : Nat) ≤ sizeLine := by decide
  cases hB with
  | pairs l h =>
    refine ⟨_, ⟨.pairs h, by omega⟩, eq_of_wp fun st => ?_⟩
    unfold m_pairs_of
    walk_at "v"
    refine if_p rfl ?_
    walk_at "v"
    exact ⟨rfl, rfl⟩
  | @ranks rk l h =>
    refine ⟨_, ⟨.ranks l h, by have := evens_len rk; unfold rkPairs; rw [List.length_map]; omega⟩, eq_of_wp fun st => ?_⟩
    unfold m_pairs_of
    walk_at "v"
    refine if_n (by decide) ?_
    walk_at "v"
    refine if_p rfl ?_
    walk_at "v"
    refine vs_eq (pairs_ranks_eq (by omega)) ?_
    walk_at "v"
    exact ⟨rfl, rfl⟩
  | again h =>
    refine ⟨_, ⟨.again h, by simp⟩, eq_of_wp fun st => ?_⟩
    unfold m_pairs_of
    walk_at "v"
    refine if_n (by decide) ?_
    walk_at "v"
    refine if_n (by decide) ?_
    walk_at "v"
    refine if_p rfl ?_
    walk_at "v"
    exact ⟨rfl, rfl⟩
  | @last rs h =>
    refine ⟨_, ⟨.last h, by simp⟩, eq_of_wp fun st => ?_⟩
    unfold m_pairs_of
    walk_at "v"
    refine if_n (by decide) ?_
    walk_at "v"
    refine if_n (by decide) ?_
    walk_at "v"
    refine if_n (by decide) ?_
    walk_at "v"
    refine ⟨by rw [List.length_map, List.length_range]; omega, ?_⟩
    rw [rngI_map]
    walk_at "v"
    refine vs_eq (a := ((rngI n).filter fun r => !decide (r ∈ rs)).map .int) ?_ ⟨?_, ?_⟩
    · exact notin_comp
    · have := List.length_filter_le (fun r : Int => !decide (r ∈ rs)) (rngI n)
      rw [rngI_len] at this
      rw [List.length_map]; omega
    walk_at "v"
    exact ⟨rfl, rfl⟩

theorem pick'_rs {n : Int} {m : Nat} (h : (m : Int) = n) (p : Nat → Bool) : Rs n (pick' m p) := by
  unfold pick'
  refine ⟨List.pairwise_map.mpr ((List.pairwise_lt_range.imp fun h => by omega).filter p), fun x mx => ?_⟩
  obtain ⟨i, mi, rfl⟩ := List.mem_map.mp mx
  have := List.mem_range.mp (List.mem_filter.mp mi).1
  omega
theorem POf.rs {n : Int} {kind : Str} {B : U} {ps : List (List Int × List Int)} (h : POf n kind B ps) : ∀ p ∈ ps, Rs n p.1 ∧ Rs n p.2 := by
  cases h with
  | again h => intro p m; rw [List.mem_singleton.mp m]; exact ⟨⟨.nil, fun _ z => nomatch z⟩, h⟩
  | last h =>
    intro p m; rw [List.mem_singleton.mp m]
    exact ⟨⟨(rngI_pw n).filter _, fun x m => mem_rngI.mp (List.mem_filter.mp m).1⟩, rngI_pw n, fun x m => mem_rngI.mp m⟩
  | pairs h => exact h
  | ranks l h =>
    intro p m
    obtain ⟨r, _, rfl⟩ := List.mem_map.mp m
    exact ⟨pick'_rs l _, pick'_rs l _⟩
theorem POf.len {n : Int} {kind : Str} {B : U} {ps : List (List Int × List Int)} (h : POf n kind B ps) (hB : ByOk n kind B) (n1 : n ≤ 10) : ps.length ≤ 14 := by
  cases h with
  | again h => simp
  | last h => simp
  | pairs h =>
    generalize eB : (U.tup (ps.map pairU)) = B0 at hB
    cases hB with
    | pairs l h2 =>
      have := congrArg (fun u => match u with | U.tup us => us.length | _ => 0) eB
      simp only [List.length_map] at this
      omega
  | @ranks rk l h => have := evens_len rk; unfold rkPairs; rw [List.length_map]; omega
def SqU (u : U) (l : List Int) : Prop := u = .lst (l.map .int) ∨ u = .tup (l.map .int)
theorem SqU.in {u : U} {l : List Int} (h : SqU u l) (r : Int) : inSU (.int r) u = some (.bl (decide (r ∈ l))) := by
  rcases h with rfl | rfl <;> unfold inSU
  · rw [inB_l]; rfl
  · rw [inB_t]; rfl
abbrev Cz : Type := (U × U) × (List Int × List Int)
def czU (z : Cz) : U := .tup [z.1.1, z.1.2]
theorem mem_pick' {m : Nat} {p : Nat → Bool} {x : Int} : x ∈ pick' m p ↔ ∃ i : Nat, x = (i : Int) ∧ i < m ∧ p i = true := by
  unfold pick'
  rw [List.mem_map]
  constructor
  · rintro ⟨i, m, rfl⟩
    rw [List.mem_filter, List.mem_range] at m
    exact ⟨i, rfl, m⟩
  · rintro ⟨i, rfl, h⟩
    exact ⟨i, by rw [List.mem_filter, List.mem_range]; exact h, rfl⟩
theorem at_rk {rk : List Int} {x : Int} (h0 : 0 ≤ x) (h1 : x < (rk.length : Nat)) : atI (rk.map U.int) x = some (U.int (rk.getD x.toNat 0)) := by
  unfold atI ixN
  rw [if_pos h0, if_pos (by rw [List.length_map]; omega)]
  have : x.toNat < rk.length := by omega
  simp [List.getD, this]
def rkEq (n : Int) (rk : List Int) (r : Int) : List Int := (rngI n).filter fun x => decide (rk.getD x.toNat 0 = r)
abbrev ptU (L n f : Int) (W : List (List Int)) (kind : Str) (B : U) : U := .tup [.int L, .int n, .int f, .tup (W.map tupI), .str kind, B]
theorem made_ok {st : Sto} {n L s : Int} {W : List (List Int)} {kind : Str} {B : U} (l0 : 1 ≤ L) (l1 : L ≤ 4) (n0 : 1 ≤ n) (n1 : n ≤ 1000) (s0 : 0 ≤ s) (s1 : s < n) (hW : WOk n L W) (hl : W.length < 50000) (hB : ByOk n kind B) {Q : U → Sto → Prop} (k : ∀ G : List Dc, GOk n W G → Q (hallObj L n s W kind B G) st) :
    Wp (m__law_made (.tup [.int L, .int n, .int s, .tup (W.map tupI), .str kind, B])) st Q := by
  unfold m__law_made
  refine .fn (.rt (mk_at l0 l1 n0 n1 s0 s1 hW hl hB ?_))
  walk_at "v"
  exact ⟨rfl, k⟩
theorem drC {ms : Sto} {n : Nat} {r m : Int} {st : Sto} {we : U → M U} (h : Bx ms n st) (hn : n < 100000000) (r1 : r ≤ 1000) (m0 : 0 < m) (m1 : m < 1000) (hw : ∀ u st Q, Wp (callM (L2' m__law_take) (consA (.ret (.loc ms.length)) (consA (.ret (.int m)) nilA))) st Q → Wp (we u) st Q) {Q : List U → Sto → Prop}
    (k : ∀ (rs : List Int) (s : Sto), rs.length = r.toNat → (∀ x ∈ rs, 0 ≤ x ∧ x < m) → Bx ms (n + r.toNat) s → Q (rs.map .int) s) : Wp (compM (fun _ => .ret true) we ((List.range r.toNat).map fun i => U.int (i : Nat))) st Q := by
  refine vs_compN (d := U.int) (fun i rs st => rs.length = i ∧ (∀ x ∈ rs, 0 ≤ x ∧ x < m) ∧ Bx ms (n + i) st) ⟨rfl, by simp, h⟩ ?_ ?_
  · rintro i rs st hi ⟨hl, hb, hd⟩
    refine .ret ?_
    show Wp _ _ _
    refine hw _ _ _ (wp_take hd (by omega) m0 (by omega) fun v s v0 v1 hs => ⟨v, rfl, by simp [hl], fun x mx => ?_, hs⟩)
    rcases List.mem_append.mp mx with mx | mx
    · exact hb x mx
    · rw [List.mem_singleton.mp mx]; exact ⟨v0, v1⟩
  · rintro rs st ⟨hl, hb, hd⟩
    exact k rs st hl hb hd
theorem bx_cell {ms st : Sto} {n : Nat} (h : Bx ms n st) (hm : ms.all cellN = true) : st.all cellN = true := by
  obtain ⟨a, b, c, rfl, _⟩ := h
  rw [List.all_append, hm]; rfl

abbrev Sg : Type := List (Bool × Bool)
def entS (P : PL) (e : Int) (σ : Sg) : Sg := List.zipWith (fun p s => (s.1 && !decide (e ∈ p.1), s.2 || decide (e ∈ p.2))) P σ
def sg0 (P : PL) : Sg := List.replicate P.length (true, false)
def LRr (W : List (List Int)) (P : PL) (r : Int) : List Int → Int → Sg → Prop
  | [], e, σ => e = r ∧ σ = sg0 P
  | l :: u, e, τ => ∃ m σ, LRr W P r u m σ ∧ [m, l, e] ∈ W ∧ τ = entS P e σ
def LR (W : List (List Int)) (P : PL) (r : Int) (u : List Int) (e : Int) (σ : Sg) : Prop := LRr W P r u.reverse e σ
section
variable {W : List (List Int)} {P : PL} {r e : Int} {σ : Sg}
theorem LR_snoc {u : List Int} {l : Int} : LR W P r (u ++ [l]) e σ ↔ ∃ m τ, LR W P r u m τ ∧ [m, l, e] ∈ W ∧ σ = entS P e τ := by
  unfold LR
  rw [List.reverse_append]; rfl
theorem LR_len : ∀ u : List Int, ∀ e σ, LR W P r u e σ → σ.length = P.length := by
  refine snoc_ind ?_ ?_
  · rintro e σ ⟨_, rfl⟩
    unfold sg0; rw [List.length_replicate]
  · rintro u l ih e σ h
    obtain ⟨m, τ, h1, _, rfl⟩ := LR_snoc.mp h
    unfold entS
    rw [List.length_zipWith, ih _ _ h1]; omega
abbrev sgA (σ : Sg) (k : Nat) : Bool × Bool := σ.getD k (false, false)
theorem ent_at {τ : Sg} {k : Nat} (hk : k < P.length) (l : τ.length = P.length) : sgA (entS P e τ) k = ((sgA τ k).1 && !decide (e ∈ nvP P k), (sgA τ k).2 || decide (e ∈ ofP P k)) := by
  have h1 : nvP P k = P[k].1 := by unfold nvP; simp [List.getD, hk]
  have h2 : ofP P k = P[k].2 := by unfold ofP; simp [List.getD, hk]
  rw [h1, h2]
  unfold sgA entS
  have hk' : k < τ.length := by omega
  simp [List.getD, List.getElem?_zipWith, hk, hk']
theorem LR_any : ∀ u : List Int, ∀ e, (∃ σ, LR W P r u e σ) ↔ Pt W (fun _ => True) u r e := by
  refine snoc_ind ?_ ?_
  · intro e
    exact ⟨fun ⟨σ, h⟩ => h.1.symm, fun h => ⟨_, h.symm, rfl⟩⟩
  · intro u l ih e
    rw [Pt_snoc]
    constructor
    · rintro ⟨σ, h⟩
      obtain ⟨m, τ, h1, h2, _⟩ := LR_snoc.mp h
      exact ⟨m, (ih m).mp ⟨τ, h1⟩, h2, trivial⟩
    · rintro ⟨m, h1, h2, _⟩
      obtain ⟨τ, h⟩ := (ih m).mpr h1
      exact ⟨_, LR_snoc.mpr ⟨m, τ, h, h2, rfl⟩⟩
theorem LR_free {k : Nat} (hk : k < P.length) : ∀ u : List Int, ∀ e, (∃ σ, LR W P r u e σ ∧ (sgA σ k).1 = true) ↔ Pt W (· ∉ nvP P k) u r e := by
  refine snoc_ind ?_ ?_
  · intro e
    refine ⟨fun ⟨σ, h, _⟩ => h.1.symm, fun h => ⟨_, ⟨h.symm, rfl⟩, ?_⟩⟩
    unfold sgA sg0; simp [List.getD, hk]
  · intro u l ih e
    rw [Pt_snoc]
    constructor
    · rintro ⟨σ, h, h3⟩
      obtain ⟨m, τ, h1, h2, rfl⟩ := LR_snoc.mp h
      rw [ent_at hk (LR_len _ _ _ h1)] at h3
      simp only [Bool.and_eq_true, Bool.not_eq_true', decide_eq_false_iff_not] at h3
      exact ⟨m, (ih m).mp ⟨τ, h1, h3.1⟩, h2, h3.2⟩
    · rintro ⟨m, h1, h2, h3⟩
      obtain ⟨τ, h, h4⟩ := (ih m).mpr h1
      refine ⟨_, LR_snoc.mpr ⟨m, τ, h, h2, rfl⟩, ?_⟩
      rw [ent_at hk (LR_len _ _ _ h), h4, decide_eq_false h3]; rfl
theorem LR_seen {k : Nat} (hk : k < P.length) : ∀ u : List Int, ∀ e, (∃ σ, LR W P r u e σ ∧ (sgA σ k).1 = true ∧ (sgA σ k).2 = true) ↔ PtS W (· ∉ nvP P k) (· ∈ ofP P k) u r e := by
  refine snoc_ind ?_ ?_
  · intro e
    refine ⟨fun ⟨σ, h, h2, h3⟩ => ?_, fun h => h.elim⟩
    rw [h.2] at h3
    unfold sgA sg0 at h3
    simp [List.getD, hk] at h3
  · intro u l ih e
    rw [PtS_snoc]
    constructor
    · rintro ⟨σ, h, h3, h4⟩
      obtain ⟨m, τ, h1, h2, rfl⟩ := LR_snoc.mp h
      rw [ent_at hk (LR_len _ _ _ h1)] at h3 h4
      simp only [Bool.and_eq_true, Bool.not_eq_true', decide_eq_false_iff_not, Bool.or_eq_true, decide_eq_true_eq] at h3 h4
      refine ⟨m, h2, h3.2, ?_⟩
      rcases h4 with h4 | h4
      · exact .inl ((ih m).mp ⟨τ, h1, h3.1, h4⟩)
      · exact .inr ⟨(LR_free hk u m).mp ⟨τ, h1, h3.1⟩, h4⟩
    · rintro ⟨m, h2, h3, h4⟩
      rcases h4 with h4 | ⟨h4, h5⟩
      · obtain ⟨τ, h, h6, h7⟩ := (ih m).mpr h4
        refine ⟨_, LR_snoc.mpr ⟨m, τ, h, h2, rfl⟩, ?_⟩
        rw [ent_at hk (LR_len _ _ _ h), h6, h7, decide_eq_false h3]; exact ⟨rfl, rfl⟩
      · obtain ⟨τ, h, h6⟩ := (LR_free hk u m).mpr h4
        refine ⟨_, LR_snoc.mpr ⟨m, τ, h, h2, rfl⟩, ?_⟩
        rw [ent_at hk (LR_len _ _ _ h), h6, decide_eq_false h3, decide_eq_true h5]; exact ⟨rfl, Bool.or_true _⟩
end
def lawB (a b : Nat → Bool) : Nat → Nat
  | 0 => 1
  | k + 1 => lawB a b k + mkN k * (a k).toNat + 2 * mkN k * (b k).toNat
theorem lawB_lt (a b : Nat → Bool) : ∀ k, lawB a b k < mkN k
  | 0 => show 1 < mkN 0 by decide
  | k + 1 => by
    have := lawB_lt a b k
    rw [lawB, mkN_succ]
    cases a k <;> cases b k <;> simp only [Bool.toNat_true, Bool.toNat_false] <;> omega
theorem lawB_eq (a b : Nat → Bool) (k : Nat) : ∃ c, lawB a b (k + 1) = lawB a b k + c * mkN k ∧ c < 4 ∧ c.testBit 0 = a k ∧ c.testBit 1 = b k := by
  refine ⟨(a k).toNat + 2 * (b k).toNat, ?_, ?_, ?_, ?_⟩
  · rw [lawB, Nat.add_mul, Nat.mul_comm (mkN k), Nat.mul_assoc 2 (mkN k), Nat.mul_assoc 2 _ (mkN k), Nat.mul_comm (mkN k) (b k).toNat, Nat.add_assoc]
  · cases a k <;> cases b k <;> decide
  · cases a k <;> cases b k <;> rfl
  · cases a k <;> cases b k <;> rfl
theorem lawB_bit (a b : Nat → Bool) (i : Nat) : ∀ k, (lawB a b k).testBit (2 * i + 1) = (decide (i < k) && a i) ∧ (lawB a b k).testBit (2 * i + 2) = (decide (i < k) && b i)
  | 0 => by
    have h : ∀ j, (1 : Nat).testBit (j + 1) = false := fun j => Nat.testBit_lt_two_pow (Nat.one_lt_two_pow (by omega))
    exact ⟨(h _).trans (by simp), (h _).trans (by simp)⟩
  | k + 1 => by
    obtain ⟨h1, h2⟩ := lawB_bit a b i k
    obtain ⟨c, e, hc, b0, b1⟩ := lawB_eq a b k
    rw [e, tb_add (lawB_lt a b k), tb_add (lawB_lt a b k)]
    by_cases c1 : i < k
    · rw [decide_eq_true (show 2 * i + 1 < 2 * k + 1 by omega), decide_eq_true (show 2 * i + 2 < 2 * k + 1 by omega), cond_true, cond_true, h1, h2, decide_eq_true c1, decide_eq_true (show i < k + 1 by omega)]
      exact ⟨rfl, rfl⟩
    · rw [decide_eq_false (show ¬ 2 * i + 1 < 2 * k + 1 by omega), decide_eq_false (show ¬ 2 * i + 2 < 2 * k + 1 by omega), cond_false, cond_false]
      by_cases c2 : i = k
      · subst c2
        rw [show 2 * i + 1 - (2 * i + 1) = 0 by omega, show 2 * i + 2 - (2 * i + 1) = 1 by omega, b0, b1, decide_eq_true (show i < i + 1 by omega)]
        exact ⟨rfl, rfl⟩
      · have z : ∀ j, 2 ≤ j → c.testBit j = false := fun j hj => by
          refine Nat.testBit_lt_two_pow ?_
          have : 2 ^ 2 ≤ 2 ^ j := Nat.pow_le_pow_right (by omega) hj
          omega
        rw [z _ (by omega), z _ (by omega), decide_eq_false (show ¬ i < k + 1 by omega)]
        exact ⟨rfl, rfl⟩
theorem lawB_bit0 (a b : Nat → Bool) : ∀ k, (lawB a b k).testBit 0 = true
  | 0 => show (1 : Nat).testBit 0 = true by decide
  | k + 1 => by
    obtain ⟨c, e, _, _, _⟩ := lawB_eq a b k
    rw [e, tb_add (lawB_lt a b k), decide_eq_true (show 0 < 2 * k + 1 by omega), cond_true, lawB_bit0 a b k]
theorem lawB_step {W : List (List Int)} {n L : Int} {P : PL} {ls : List Int} (hW : WOk n L W) {i e : Nat} (hi : i < n.toNat) (he : e < n.toNat) {a b : Nat → Bool}
    (ha : ∀ k, k < P.length → (a k = true ↔ ∃ σ, LR W P (i : Nat) ls (e : Nat) σ ∧ (sgA σ k).1 = true))
    (hb : ∀ k, k < P.length → (b k = true ↔ ∃ σ, LR W P (i : Nat) ls (e : Nat) σ ∧ (sgA σ k).1 = true ∧ (sgA σ k).2 = true))
    (h : ∃ σ, LR W P (i : Nat) ls (e : Nat) σ) : stepM W P n.toNat ls i e = lawB a b P.length := by
  obtain ⟨h0, h1, h2⟩ := stepM_bits (P := P) hW ls i e hi he
  refine Nat.eq_of_testBit_eq fun j => ?_
  match j with
  | 0 => rw [lawB_bit0, h0.mpr ((LR_any ls _).mp h)]
  | j + 1 =>
    rcases Nat.mod_two_eq_zero_or_one j with q | q
    · obtain ⟨k, rfl⟩ : ∃ k, j = 2 * k := ⟨j / 2, by omega⟩
      rw [(lawB_bit a b k _).1, Bool.eq_iff_iff, h1 k, Bool.and_eq_true, decide_eq_true_eq]
      constructor
      · rintro ⟨hk, hp⟩; exact ⟨hk, (ha k hk).mpr ((LR_free hk ls _).mpr hp)⟩
      · rintro ⟨hk, hp⟩; exact ⟨hk, (LR_free hk ls _).mp ((ha k hk).mp hp)⟩
    · obtain ⟨k, rfl⟩ : ∃ k, j = 2 * k + 1 := ⟨j / 2, by omega⟩
      rw [show 2 * k + 1 + 1 = 2 * k + 2 by omega, (lawB_bit a b k _).2, Bool.eq_iff_iff, h2 k, Bool.and_eq_true, decide_eq_true_eq]
      constructor
      · rintro ⟨hk, hp⟩; exact ⟨hk, (hb k hk).mpr ((LR_seen hk ls _).mpr hp)⟩
      · rintro ⟨hk, hp⟩; exact ⟨hk, (LR_seen hk ls _).mp ((hb k hk).mp hp)⟩

def CpOk (n : Int) (z : Cz) : Prop := ∃ la lg : List Int, SqU z.1.1 la ∧ SqU z.1.2 lg ∧ ∀ r, 0 ≤ r → r < n → (r ∈ la ↔ r ∈ z.2.1) ∧ (r ∈ lg ↔ r ∈ z.2.2)
def rkGt (n : Int) (rk : List Int) (r : Int) : List Int := (rngI n).filter fun x => decide (r < rk.getD x.toNat 0)
def rkD (n : Int) (rk : List Int) (r : Int) : Cz := ((.lst ((rkGt n rk r).map .int), .lst ((rkEq n rk r).map .int)), (pick' rk.length fun i => decide (r < rk.getD i 0), pick' rk.length fun i => decide (rk.getD i 0 = r)))
theorem rkD_ok {n : Int} {rk : List Int} (l : (rk.length : Int) = n) (r : Int) : CpOk n (rkD n rk r) := by
  refine ⟨rkGt n rk r, rkEq n rk r, .inl rfl, .inl rfl, fun x x0 x1 => ⟨?_, ?_⟩⟩
  · unfold rkGt rkD
    rw [List.mem_filter, mem_rngI, mem_pick', decide_eq_true_eq]
    constructor
    · rintro ⟨_, h⟩
      exact ⟨x.toNat, by omega, by omega, decide_eq_true h⟩
    · rintro ⟨i, rfl, hi, h2⟩
      exact ⟨⟨x0, x1⟩, by rw [Int.toNat_natCast]; exact of_decide_eq_true h2⟩
  · unfold rkEq rkD
    rw [List.mem_filter, mem_rngI, mem_pick', decide_eq_true_eq]
    constructor
    · rintro ⟨_, h⟩
      exact ⟨x.toNat, by omega, by omega, decide_eq_true h⟩
    · rintro ⟨i, rfl, hi, h2⟩
      exact ⟨⟨x0, x1⟩, by rw [Int.toNat_natCast]; exact of_decide_eq_true h2⟩
theorem lpairs_eq {L n f : Int} {W : List (List Int)} {kind : Str} {B : U} {P : List (List Int × List Int)} (hB : ByOk n kind B) (hP : POf n kind B P) (n0 : 1 ≤ n) (n1 : n ≤ 10) :
    ∃ Z : List Cz, P = Z.map Prod.snd ∧ Z.length ≤ 14 ∧ (∀ z ∈ Z, CpOk n z) ∧ m__law_pairs (ptU L n f W kind B) = .ret (.lst (Z.map czU)) := by
  have sz : (1000000 : Nat) ≤ sizeLine := by decide
  have hlen := hP.len hB n1
  have rl : (rngI n).length = n.toNat := rngI_len n
  cases hP with
  | @again rs h =>
    refine ⟨[((.lst [], .tup (rs.map .int)), ([], rs))], rfl, by simp, fun z m => ?_, eq_of_wp fun st => ?_⟩
    · rw [List.mem_singleton.mp m]
      exact ⟨[], rs, .inl rfl, .inr rfl, fun r r0 r1 => ⟨Iff.rfl, Iff.rfl⟩⟩
    · unfold m__law_pairs
      refine .fn ?_
      walk_at "v"
      refine ⟨by rw [List.length_map, List.length_range]; omega, ?_⟩
      rw [rngI_map]
      walk_at "v"
      refine if_p rfl ?_
      walk_at "v"
      exact ⟨rfl, rfl⟩
  | @last rs h =>
    refine ⟨[((.lst (((rngI n).filter fun r => !decide (r ∈ rs)).map .int), .lst ((rngI n).map .int)), ((rngI n).filter (fun r => !decide (r ∈ rs)), rngI n))], rfl, by simp, fun z m => ?_, eq_of_wp fun st => ?_⟩
    · rw [List.mem_singleton.mp m]
      exact ⟨_, rngI n, .inl rfl, .inl rfl, fun r r0 r1 => ⟨Iff.rfl, Iff.rfl⟩⟩
    · unfold m__law_pairs
      refine .fn ?_
      walk_at "v"
      refine ⟨by rw [List.length_map, List.length_range]; omega, ?_⟩
      rw [rngI_map]
      walk_at "v"
      refine if_n (by decide) ?_
      walk_at "v"
      refine if_p rfl ?_
      walk_at "v"
      refine vs_eq notin_comp ⟨?_, ?_⟩
      · have := List.length_filter_le (fun r => !decide (r ∈ rs)) (rngI n)
        rw [List.length_map]; omega
      walk_at "v"
      exact ⟨rfl, rfl⟩
  | pairs h =>
    refine ⟨P.map fun p => ((.tup (p.1.map .int), .tup (p.2.map .int)), p), by rw [List.map_map]; exact (List.map_id' P).symm, by rw [List.length_map]; exact hlen, fun z m => ?_, eq_of_wp fun st => ?_⟩
    · obtain ⟨p, mp, rfl⟩ := List.mem_map.mp m
      exact ⟨p.1, p.2, .inr rfl, .inr rfl, fun r r0 r1 => ⟨Iff.rfl, Iff.rfl⟩⟩
    · unfold m__law_pairs
      refine .fn ?_
      walk_at "v"
      refine ⟨by rw [List.length_map, List.length_range]; omega, ?_⟩
      rw [rngI_map]
      walk_at "v"
      refine if_n (by decide) ?_
      walk_at "v"
      refine if_n (by decide) ?_
      walk_at "v"
      refine if_p rfl ?_
      walk_at "v"
      rw [List.map_map]
      exact ⟨rfl, rfl⟩
  | @ranks rk l h =>
    refine ⟨(evens rk).map (rkD n rk), by unfold rkPairs; rw [List.map_map]; rfl, by rw [List.length_map]; have := evens_len rk; omega, fun z m => ?_, eq_of_wp fun st => ?_⟩
    · obtain ⟨r, _, rfl⟩ := List.mem_map.mp m
      exact rkD_ok l r
    · unfold m__law_pairs
      refine .fn ?_
      walk_at "v"
      refine ⟨by rw [List.length_map, List.length_range]; omega, ?_⟩
      rw [rngI_map]
      walk_at "v"
      refine if_n (by decide) ?_
      walk_at "v"
      refine if_n (by decide) ?_
      walk_at "v"
      refine if_n (by decide) ?_
      walk_at "v"
      refine vs_eq (even_comp rk) ⟨?_, ?_⟩
      · have h2 := List.length_filter_le (fun r : Int => decide (r.fmod 2 = 0)) rk
        rw [List.length_map]; omega
      refine wo_eq (sortSI_at (by have h2 := List.length_filter_le (fun r : Int => decide (r.fmod 2 = 0)) rk; omega)) ?_
      walk_at "v"
      have el := evens_len rk
      have cGt : ∀ r : Int, compM (fun room_20 => (testW (op2 gtU (op2 ixU (.ret (.tup (rk.map .int))) (.ret room_20)) (.ret (.int r))))) (fun room => .ret room) ((rngI n).map .int) = .ret ((rkGt n rk r).map .int) := fun r => by
        have := comp_eq (c := U.int) (d := U.int) (p := fun x : Int => decide (r < rk.getD x.toNat 0)) (g := id) (xs := rngI n) (wt := fun room_20 => (testW (op2 gtU (op2 ixU (.ret (.tup (rk.map .int))) (.ret room_20)) (.ret (.int r))))) (we := fun room => .ret room) fun x m => ⟨eq_of_wp fun st => by
          have := mem_rngI.mp m
          walk_at "v"
          refine wo_ix_t (at_rk this.1 (by omega)) ?_
          walk_at "v"
          exact ⟨rfl, rfl⟩, fun _ => rfl⟩
        rw [this, List.map_id]; rfl
      have cEq : ∀ r : Int, compM (fun room_20 => (testW (op2 eqU (op2 ixU (.ret (.tup (rk.map .int))) (.ret room_20)) (.ret (.int r))))) (fun room => .ret room) ((rngI n).map .int) = .ret ((rkEq n rk r).map .int) := fun r => by
        have := comp_eq (c := U.int) (d := U.int) (p := fun x : Int => decide (rk.getD x.toNat 0 = r)) (g := id) (xs := rngI n) (wt := fun room_20 => (testW (op2 eqU (op2 ixU (.ret (.tup (rk.map .int))) (.ret room_20)) (.ret (.int r))))) (we := fun room => .ret room) fun x m => ⟨eq_of_wp fun st => by
          have := mem_rngI.mp m
          walk_at "v"
          refine wo_ix_t (at_rk this.1 (by omega)) ?_
          walk_at "v"
          exact ⟨rfl, rfl⟩, fun _ => rfl⟩
        rw [this, List.map_id]; rfl
      have lGt : ∀ r, (rkGt n rk r).length ≤ n.toNat := fun r => by rw [← rl]; exact List.length_filter_le _ _
      have lEq : ∀ r, (rkEq n rk r).length ≤ n.toNat := fun r => by rw [← rl]; exact List.length_filter_le _ _
      refine vs_for (c := U.int) (e := fun pre : List Int => U.lst ((pre.map (rkD n rk)).map czU)) (t0 := []) (fun pre f st' => f = pre ∧ st' = st) rfl ⟨rfl, rfl⟩ ?_ ?_
      · rintro _ r post pre st ex ⟨rfl, rfl⟩
        have hpl : pre.length < 60 := by
          have := congrArg List.length ex
          rw [List.length_append, List.length_cons] at this
          have : (sortD (rk.filter fun r => decide (r.fmod 2 = 0))).length ≤ rk.length := el
          omega
        walk_at "v"
        have h1 := lGt r
        have h2 := lEq r
        refine vs_eq (cGt r) ⟨by rw [List.length_map]; omega, ?_⟩
        walk_at "v"
        refine vs_eq (cEq r) ⟨by rw [List.length_map]; omega, ?_⟩
        walk_at "v"
        refine wo_app (by rw [List.length_map, List.length_map]; omega) ?_
        walk_at "v"
        refine ⟨pre ++ [r], ?_, rfl, rfl⟩
        rw [List.map_append, List.map_append]; rfl
      · rintro _ st ⟨rfl, rfl⟩
        walk_at "v"
        exact ⟨rfl, rfl⟩

theorem eqU_nil {us : List U} (h : smA us = true) (hd : dpA us ≤ 63) : eqU (.lst us) (.lst []) = some (.bl (decide (us = []))) := by
  obtain ⟨d, e⟩ := sm_pd (.lst us) h
  have s1 : SeqAt.shaped d = true := by
    simp only [SeqAt.shaped, e.cl, e.dp, Bool.true_and]
    refine decide_eq_true ?_
    show dpA us + 1 ≤ 64
    omega
  show eqD _ _ = _
  unfold eqD
  have p0 : pd (.lst []) = some (.list []) := rfl
  have s2 : SeqAt.shaped (.list []) = true := by decide
  rw [e.pd, p0]
  simp only [s1, s2, and_self, if_true]
  obtain ⟨ds, e1, rfl⟩ := Option.map_eq_some_iff.mp (show (pdAll us).map .list = some d from e.pd)
  cases us with
  | nil => cases e1; rfl
  | cons u us =>
    rw [pdAll] at e1
    cases h1 : pd u with
    | none => rw [h1] at e1; cases e1
    | some x =>
      cases h2 : pdAll us with
      | none => rw [h1, h2] at e1; cases e1
      | some xs => rw [h1, h2] at e1; cases e1; rfl
def sg1 (s : Bool × Bool) : U := .tup [.bl s.1, .bl s.2]
def sgU (σ : Sg) : U := .tup (σ.map sg1)
def knU (p : Int × Sg) : U := .tup [.int p.1, sgU p.2]
def nb1 (b : Bool) : NestedKey := .num (if b = true then 1 else 0)
def sgK (s : Bool × Bool) : NestedKey := .tup [nb1 s.1, nb1 s.2]
theorem nk_sgs : ∀ σ : Sg, nkAll (σ.map sg1) = some (σ.map sgK)
  | [] => rfl
  | s :: σ => by
    rw [List.map_cons, nkAll, nk_sgs σ]; rfl
theorem nk_kn (p : Int × Sg) : nkU (knU p) = some (.tup [.num p.1, .tup (p.2.map sgK)]) := by
  show (match some (NestedKey.num p.1), (match (nkAll (p.2.map sg1)).map NestedKey.tup, some [] with | some d, some ds => some (d :: ds) | _, _ => none) with | some d, some ds => some (d :: ds) | _, _ => none).map NestedKey.tup = _
  rw [nk_sgs]; rfl
theorem sgK_inj {s t : Bool × Bool} (h : sgK s = sgK t) : s = t := by
  obtain ⟨a, b⟩ := s
  obtain ⟨c, d⟩ := t
  cases a <;> cases b <;> cases c <;> cases d <;> first | rfl | (revert h; decide)
theorem sgKs_inj : ∀ {σ τ : Sg}, σ.map sgK = τ.map sgK → σ = τ
  | [], [], _ => rfl
  | [], _ :: _, h => by cases h
  | _ :: _, [], h => by cases h
  | s :: σ, t :: τ, h => by
    rw [List.map_cons, List.map_cons, List.cons.injEq] at h
    rw [sgK_inj h.1, sgKs_inj h.2]
theorem sgs_dp : ∀ σ : Sg, NestedKey.depthAll (σ.map sgK) ≤ 1
  | [] => by show 0 ≤ 1; omega
  | s :: σ => by
    have := sgs_dp σ
    show max (NestedKey.depth (sgK s)) (NestedKey.depthAll (σ.map sgK)) ≤ 1
    have : NestedKey.depth (sgK s) = 1 := rfl
    omega
theorem knF : KeyF knU where
  inj := fun x y h => by
    rw [nk_kn, nk_kn] at h
    have h := Option.some.inj h
    injection h with h
    injection h with h1 h2
    injection h1 with h1
    injection h2 with h2 _
    injection h2 with h2
    obtain ⟨a, b⟩ := x
    obtain ⟨c, d⟩ := y
    simp only at h1 h2
    rw [h1, sgKs_inj h2]
  ok := fun x => ⟨.tup [.num x.1, .tup (x.2.map sgK)], by
    unfold nk8
    rw [nk_kn]
    have := sgs_dp x.2
    refine if_pos ?_
    show max 0 (max (NestedKey.depthAll (x.2.map sgK) + 1) 0) + 1 ≤ 8
    omega⟩
  tup := fun x => ⟨_, rfl⟩
theorem lentered_eq {n e : Int} {Z : List Cz} {σ : Sg} (hZ : ∀ z ∈ Z, CpOk n z) (zl : Z.length ≤ 14) (e0 : 0 ≤ e) (e1 : e < n) : m__law_entered (.lst (Z.map czU)) (sgU σ) (.int e) = .ret (sgU (entS (Z.map Prod.snd) e σ)) := by
  have sz : (1000000 : Nat) ≤ sizeLine := by decide
  have ez : zipMU (.lst (Z.map czU)) (.tup (σ.map sg1)) = some ((Z.zip σ).map fun p => U.tup [czU p.1, sg1 p.2]) := by
    show some (zipL _ _) = _
    unfold zipL
    rw [List.zipWith_map, List.zip_eq_zipWith, List.map_zipWith]
  refine eq_of_wp fun st => ?_
  unfold m__law_entered sgU
  refine .fn ?_
  walk_at "v"
  refine Wp.bind (vs_ret (Wp.bind (vs_ret (vs_o ⟨_, ez, ?_⟩))))
  have l0 : (Z.zip σ).length ≤ 14 := by rw [List.length_zip]; omega
  refine vs_for (c := fun p : Cz × (Bool × Bool) => U.tup [czU p.1, sg1 p.2]) (e := fun t : Sg => U.lst (t.map sg1)) (t0 := []) (fun pre t st' => t = pre.map (fun p => (p.2.1 && !decide (e ∈ p.1.2.1), p.2.2 || decide (e ∈ p.1.2.2))) ∧ st' = st) rfl ⟨rfl, rfl⟩ ?_ ?_
  · rintro pre p post _ st ex ⟨rfl, rfl⟩
    have hp : p ∈ Z.zip σ := by rw [ex]; simp
    obtain ⟨la, lg, q1, q2, q3⟩ := hZ p.1 (List.of_mem_zip hp).1
    obtain ⟨q3, q4⟩ := q3 e e0 e1
    have hpl : pre.length < 60 := by
      have := congrArg List.length ex
      rw [List.length_append, List.length_cons] at this
      omega
    obtain ⟨z, f, s⟩ := p
    refine vs_un22 ?_
    have i1 : notInSU (.int e) z.1.1 = some (.bl (!decide (e ∈ z.2.1))) := by
      have := q1.in e
      unfold notInSU
      unfold inSU at this
      obtain ⟨b, hb, hb2⟩ := Option.map_eq_some_iff.mp this
      cases hb2
      rw [hb]
      show some (U.bl (!decide (e ∈ la))) = _
      rw [decide_eq_decide.mpr q3]
    have i2 : inSU (.int e) z.1.2 = some (.bl (decide (e ∈ z.2.2))) := by rw [q2.in e, decide_eq_decide.mpr q4]
    walk_at "v"
    have fin : ∀ b c : Bool, b = (f && !decide (e ∈ z.2.1)) → c = (s || decide (e ∈ z.2.2)) → ∃ t, U.lst (((pre.map (fun p => (p.2.1 && !decide (e ∈ p.1.2.1), p.2.2 || decide (e ∈ p.1.2.2)))).map sg1) ++ [U.tup [.bl b, .bl c]]) = U.lst (t.map sg1) ∧ t = (pre ++ [((z, (f, s)) : Cz × (Bool × Bool))]).map (fun p => (p.2.1 && !decide (e ∈ p.1.2.1), p.2.2 || decide (e ∈ p.1.2.2))) ∧ st = st := fun b c hb hc => ⟨_, by rw [List.map_append, List.map_append, hb, hc]; rfl, rfl, rfl⟩
    have app : (pre.map (fun p : Cz × (Bool × Bool) => (p.2.1 && !decide (e ∈ p.1.2.1), p.2.2 || decide (e ∈ p.1.2.2)))).length < sizeLine := by rw [List.length_map]; omega
    have tail : ∀ (a : Bool), a = (f && !decide (e ∈ z.2.1)) → Wp (consA (orW (.ret (.bl s)) (op2 inSU (.ret (.int e)) (.ret z.1.2))) nilA) st fun r s2 => ∃ b, r = [U.bl b] ∧ b = (s || decide (e ∈ z.2.2)) ∧ s2 = st := fun a ha => by
      walk_at "v"
      cases s with
      | true => exact if_t (by walk_at "v"; exact ⟨_, rfl, rfl, rfl⟩)
      | false =>
        refine if_f ?_
        walk_at "v"
        refine ⟨_, i2, ?_⟩
        walk_at "v"
        exact ⟨_, rfl, rfl, rfl⟩
    cases f with
    | true =>
      refine if_t ?_
      walk_at "v"
      refine ⟨_, i1, ?_⟩
      refine (tail _ rfl).mono ?_
      rintro _ _ ⟨b, rfl, hb, rfl⟩
      walk_at "v"
      refine wo_app (by rw [List.length_map]; exact app) ?_
      walk_at "v"
      exact fin _ _ rfl hb
    | false =>
      refine if_f ?_
      refine (tail _ rfl).mono ?_
      rintro _ _ ⟨b, rfl, hb, rfl⟩
      walk_at "v"
      refine wo_app (by rw [List.length_map]; exact app) ?_
      walk_at "v"
      exact fin _ _ rfl hb
  · rintro _ st ⟨rfl, rfl⟩
    walk_at "v"
    refine ⟨?_, rfl⟩
    unfold entS
    rw [List.zipWith_map_left, List.zip_eq_zipWith, List.map_zipWith]

def c4 (s : Bool × Bool) : Int := s.1.toNat + 2 * s.2.toNat
def c4s : Sg → Int
  | [] => 0
  | s :: σ => c4 s + 4 * c4s σ
theorem c4_rng (s : Bool × Bool) : 0 ≤ c4 s ∧ c4 s < 4 := by obtain ⟨a, b⟩ := s; cases a <;> cases b <;> decide
theorem c4_inj {s t : Bool × Bool} (h : c4 s = c4 t) : s = t := by
  obtain ⟨a, b⟩ := s; obtain ⟨c, d⟩ := t
  cases a <;> cases b <;> cases c <;> cases d <;> first | rfl | (exact absurd h (by decide))
theorem c4s_rng : ∀ σ : Sg, 0 ≤ c4s σ ∧ c4s σ < ((4 ^ σ.length : Nat) : Int)
  | [] => by simp [c4s]
  | s :: σ => by
    have h := c4s_rng σ
    have h1 := c4_rng s
    rw [c4s, List.length_cons, Nat.pow_succ]
    omega
theorem c4s_inj : ∀ {σ τ : Sg}, σ.length = τ.length → c4s σ = c4s τ → σ = τ
  | [], [], _, _ => rfl
  | s :: σ, t :: τ, l, h => by
    rw [c4s, c4s] at h
    have h1 := c4_rng s
    have h2 := c4_rng t
    have e1 : c4 s = c4 t := by omega
    rw [c4_inj e1, c4s_inj (σ := σ) (τ := τ) (by simpa using l) (by omega)]
theorem kn_len {n : Int} {k : Nat} {D : List (Int × Sg)} (hk : k ≤ 4) (n1 : n ≤ 10) (h : ∀ p ∈ D, 0 ≤ p.1 ∧ p.1 < n ∧ p.2.length = k) (nd : D.Nodup) : D.length ≤ 2560 := by
  have h4 : (4 ^ k : Nat) ≤ 256 := Nat.pow_le_pow_right (n := 4) (by omega) hk
  have h1 : (D.map fun p => c4s p.2 * n + p.1).Nodup := by
    refine List.pairwise_map.mpr (nd.imp_of_mem fun {x y} mx my ne e => ne ?_)
    obtain ⟨a0, a1, a2⟩ := h x mx
    obtain ⟨b0, b1, b2⟩ := h y my
    obtain ⟨h1, h2⟩ := cd2_inj a0 a1 b0 b1 e
    obtain ⟨a, b⟩ := x; obtain ⟨c, d⟩ := y
    have e1 : a = c := h2
    have e2 : b = d := c4s_inj (show b.length = d.length from a2.trans b2.symm) h1
    rw [e1, e2]
  have := nodup_len 2560 _ h1 fun z m => by
    obtain ⟨x, mx, rfl⟩ := List.mem_map.mp m
    obtain ⟨a0, a1, a2⟩ := h x mx
    obtain ⟨r0, r1⟩ := c4s_rng x.2
    rw [a2] at r1
    have h2 : (c4s x.2 + 1) * n ≤ 256 * n := Int.mul_le_mul_of_nonneg_right (by omega) (by omega)
    have h3 : 0 ≤ c4s x.2 * n := Int.mul_nonneg r0 (by omega)
    rw [Int.add_mul] at h2
    show 0 ≤ c4s x.2 * n + x.1 ∧ c4s x.2 * n + x.1 < ((2560 : Nat) : Int)
    omega
  rwa [List.length_map] at this
theorem sm_sg (σ : Sg) : smU (sgU σ) = true := by
  show smA (σ.map sg1) = true
  exact smA_map fun s _ => rfl
theorem dp_sg1 : ∀ σ : Sg, dpA (σ.map sg1) ≤ 1
  | [] => by show 0 ≤ 1; omega
  | s :: σ => by
    have := dp_sg1 σ
    show max (dpU (sg1 s)) (dpA (σ.map sg1)) ≤ 1
    have : dpU (sg1 s) = 1 := rfl
    omega
theorem dp_sgs : ∀ hs : List Sg, dpA (hs.map sgU) ≤ 2
  | [] => by show 0 ≤ 2; omega
  | σ :: hs => by
    have := dp_sgs hs
    have h1 := dp_sg1 σ
    show max (dpU (sgU σ)) (dpA (hs.map sgU)) ≤ 2
    have : dpU (sgU σ) = dpA (σ.map sg1) + 1 := rfl
    omega
def toE (D : List (Int × Sg)) (e : Int) : List Sg := (D.filter fun p => decide (p.1 = e)).map (·.2)
def bitA (hs : List Sg) (i : Nat) : Bool := hs.any fun σ => (sgA σ i).1
def bitB (hs : List Sg) (i : Nat) : Bool := hs.any fun σ => (sgA σ i).1 && (sgA σ i).2
theorem ix_sg {σ : Sg} {i : Nat} (h : i < σ.length) : ixU (sgU σ) (.int (i : Nat)) = some (sg1 (sgA σ i)) := by
  show atI (σ.map sg1) _ = _
  unfold atI
  rw [show ixN (σ.map sg1).length (i : Int) = some i by rw [List.length_map]; exact ixN_nat h]
  simp [sgA, List.getD, h]
theorem bits_eq {D : List (Int × Sg)} {e : Int} {k : Nat} (hk : k ≤ 4) (hD : ∀ p ∈ D, p.2.length = k) (dl : D.length ≤ 2560) :
    m__law_bits (sN knU D) (.int e) (.int (k : Nat)) = .ret (.int ((if toE D e = [] then 0 else lawB (bitA (toE D e)) (bitB (toE D e)) k : Nat) : Int)) := by
  have sz : (1000000 : Nat) ≤ sizeLine := by decide
  refine eq_of_wp fun st => ?_
  unfold m__law_bits
  refine .fn ?_
  walk_at "v"
  refine ⟨_, keysN_sN knF D, ?_⟩
  have c1 := comp_eq (c := knU) (d := sgU) (p := fun p : Int × Sg => decide (p.1 = e)) (g := fun p => p.2) (xs := D) (wt := fun e_10 => un2 e_10 fun end_8 signs_9 => (testW (op2 eqU (.ret end_8) (.ret (.int e))))) (we := fun e_10 => un2 e_10 fun end_8 signs_9 => (.ret signs_9)) fun x m => ⟨eq_of_wp fun st => by
      unfold knU
      refine vs_un2 ?_
      walk_at "v"
      exact ⟨rfl, rfl⟩, fun _ => rfl⟩
  have hl : (toE D e).length ≤ 2560 := by
    unfold toE
    rw [List.length_map]
    have := List.length_filter_le (fun p : Int × Sg => decide (p.1 = e)) D
    omega
  have c1 : compM _ _ (D.map knU) = .ret ((toE D e).map sgU) := c1
  refine vs_eq c1 ⟨by rw [List.length_map]; omega, ?_⟩
  have hT : ∀ σ ∈ toE D e, σ.length = k := fun σ m => by
    obtain ⟨p, mp, rfl⟩ := List.mem_map.mp m
    exact hD p (List.mem_filter.mp mp).1
  generalize toE D e = hs at hl hT
  have sm := smA_map (c := sgU) (xs := hs) fun σ _ => sm_sg σ
  have dp := dp_sgs hs
  walk_at "v"
  refine ⟨_, eqU_nil sm (by omega), ?_⟩
  walk_at "v"
  by_cases hz : hs = []
  · subst hz
    refine if_p rfl ?_
    walk_at "v"
    exact ⟨rfl, rfl⟩
  have hz' : ¬ hs.map sgU = [] := fun z => hz (List.map_eq_nil_iff.mp z)
  refine if_n hz' ?_
  rw [if_neg hz]
  walk_at "v"
  refine vs_forN (e := fun t : Nat => ((.int (lawB (bitA hs) (bitB hs) t : Nat), .int (mkN t : Nat)) : U × U)) (fun i t s => t = i ∧ s = st) (t0 := 0) rfl ⟨rfl, rfl⟩ ?_ ?_
  · rintro j i st hi ⟨rfl, rfl⟩
    have hm := mkN_lt (k := i) (by omega)
    have hb := lawB_lt (bitA hs) (bitB hs) i
    have cA := comp_eq (c := sgU) (d := U.bl) (p := fun _ : Sg => true) (g := fun σ => (sgA σ i).1) (xs := hs) (wt := fun signs_19 => (.ret true)) (we := fun signs_19 => (op2 ixU (op2 ixU (.ret signs_19) (.ret (.int (i : Nat)))) (.ret (.int 0)))) fun σ m => ⟨rfl, fun _ => eq_of_wp fun st => by
        have := hT σ m
        walk_at "v"
        refine ⟨_, ix_sg (by omega), ?_⟩
        walk_at "v"
        exact ⟨_, rfl, rfl, rfl⟩⟩
    have cB := comp_eq (c := sgU) (d := U.bl) (p := fun _ : Sg => true) (g := fun σ => (sgA σ i).1 && (sgA σ i).2) (xs := hs) (wt := fun signs_24 => (.ret true)) (we := fun signs_24 => (andW (op2 ixU (op2 ixU (.ret signs_24) (.ret (.int (i : Nat)))) (.ret (.int 0))) (op2 ixU (op2 ixU (.ret signs_24) (.ret (.int (i : Nat)))) (.ret (.int 1))))) fun σ m => ⟨rfl, fun _ => eq_of_wp fun st => by
        have := hT σ m
        walk_at "v"
        refine ⟨_, ix_sg (by omega), ?_⟩
        walk_at "v"
        refine ⟨.bl (sgA σ i).1, rfl, ?_⟩
        walk_at "v"
        cases h : (sgA σ i).1 with
        | true =>
          refine if_t ?_
          walk_at "v"
          refine ⟨_, ix_sg (by omega), ?_⟩
          walk_at "v"
          exact ⟨_, rfl, rfl, rfl⟩
        | false => exact if_f ⟨rfl, rfl⟩⟩
    rw [List.filter_eq_self.mpr (fun _ _ => rfl)] at cA cB
    walk_at "v"
    refine vs_eq cA ⟨by rw [List.length_map, List.length_map]; omega, ?_⟩
    refine ⟨_, any_atS _, ?_⟩
    refine ⟨_, rfl, ?_⟩
    have ea : (hs.map fun σ => (sgA σ i).1).any id = bitA hs i := by unfold bitA; rw [List.any_map]; rfl
    have eb : (hs.map fun σ => (sgA σ i).1 && (sgA σ i).2).any id = bitB hs i := by unfold bitB; rw [List.any_map]; rfl
    rw [ea]
    walk_at "v"
    refine vs_eq cB ⟨by rw [List.length_map, List.length_map]; omega, ?_⟩
    refine ⟨_, any_atS _, ?_⟩
    refine ⟨_, rfl, ?_⟩
    rw [eb]
    walk_at "v"
    refine ⟨i + 1, ?_, rfl, rfl⟩
    have h1 : ((lawB (bitA hs) (bitB hs) (i + 1) : Nat) : Int) = ((lawB (bitA hs) (bitB hs) i : Nat) : Int) + ((mkN i : Nat) : Int) * (if bitA hs i = true then 1 else 0) + 2 * ((mkN i : Nat) : Int) * (if bitB hs i = true then 1 else 0) := by
      rw [lawB]
      cases bitA hs i <;> cases bitB hs i <;> simp
    rw [h1, mkN_succ]
    congr 2
  · rintro _ st ⟨rfl, rfl⟩
    walk_at "v"
    exact ⟨rfl, rfl⟩

theorem vs_noRtx {S L : Type} {st : Sto} {w : M (Out S L)} {Q : Out S L → Sto → Prop} (h : Wp w st fun o s => match o with | .nx t => Q (.nx t) s | _ => False) : Wp (noRt w) st Q := by
  refine Wp.bind (h.mono fun o s q => ?_)
  cases o with
  | nx t => exact .ret q
  | _ => exact q.elim
theorem POf.len4 {n : Int} {kind : Str} {B : U} {ps : List (List Int × List Int)} (h : POf n kind B ps) (hB : ByOk n kind B) (n1 : n ≤ 4) : ps.length ≤ 4 := by
  cases h with
  | again h => simp
  | last h => simp
  | pairs h =>
    generalize eB : (U.tup (ps.map pairU)) = B0 at hB
    cases hB with
    | pairs l h2 =>
      have := congrArg (fun u => match u with | U.tup us => us.length | _ => 0) eB
      simp only [List.length_map] at this
      omega
  | @ranks rk l h => have := evens_len rk; unfold rkPairs; rw [List.length_map]; omega
section
variable {W : List (List Int)} {P : PL} {n L : Int}
def OkT (P : PL) (n : Int) (T : List (Int × Sg)) : Prop := T.Nodup ∧ ∀ p ∈ T, 0 ≤ p.1 ∧ p.1 < n ∧ p.2.length = P.length
theorem OkT.len {T : List (Int × Sg)} (h : OkT P n T) (hk : P.length ≤ 4) (n1 : n ≤ 10) : T.length ≤ 2560 := kn_len hk n1 h.2 h.1
theorem OkT.add {T : List (Int × Sg)} {p : Int × Sg} (h : OkT P n T) (hn : p ∉ T) (hp : 0 ≤ p.1 ∧ p.1 < n ∧ p.2.length = P.length) : OkT P n (T ++ [p]) := by
  refine ⟨List.nodup_append.mpr ⟨h.1, List.pairwise_singleton _ _, fun a ma b mb e => hn (by rw [List.mem_singleton] at mb; rw [← mb, ← e]; exact ma)⟩, fun q m => ?_⟩
  rcases List.mem_append.mp m with m | m
  · exact h.2 q m
  · rw [List.mem_singleton.mp m]; exact hp
theorem ent_len {e : Int} {σ : Sg} (h : σ.length = P.length) : (entS P e σ).length = P.length := by
  unfold entS; rw [List.length_zipWith]; omega
theorem mem_toE {D : List (Int × Sg)} {e : Int} {σ : Sg} : σ ∈ toE D e ↔ (e, σ) ∈ D := by
  unfold toE
  rw [List.mem_map]
  constructor
  · rintro ⟨p, m, rfl⟩
    obtain ⟨m, h⟩ := List.mem_filter.mp m
    have : p.1 = e := of_decide_eq_true h
    rw [← this]; exact m
  · intro m
    exact ⟨(e, σ), List.mem_filter.mpr ⟨m, decide_eq_true rfl⟩, rfl⟩
theorem law_bits {D : List (Int × Sg)} {ls : List Int} {i e : Nat} (hW : WOk n L W) (hi : i < n.toNat) (he : e < n.toNat) (hD : ∀ p, p ∈ D ↔ LR W P (i : Nat) ls p.1 p.2) :
    (if toE D e = [] then 0 else lawB (bitA (toE D e)) (bitB (toE D e)) P.length) = stepM W P n.toNat ls i e := by
  have hT : ∀ σ, σ ∈ toE D e ↔ LR W P (i : Nat) ls (e : Nat) σ := fun σ => mem_toE.trans (hD ((e : Int), σ))
  by_cases c : toE D e = []
  · rw [if_pos c]
    have : ¬ 0 < stepM W P n.toNat ls i e := fun z => by
      obtain ⟨σ, h⟩ := (LR_any (P := P) ls (e : Nat)).mpr ((stepM_pos hW hi he).mp z)
      have := (hT σ).mpr h
      rw [c] at this; cases this
    omega
  · rw [if_neg c]
    refine (lawB_step hW hi he (fun k hk => ?_) (fun k hk => ?_) ?_).symm
    · unfold bitA
      rw [List.any_eq_true]
      exact ⟨fun ⟨σ, m, h⟩ => ⟨σ, (hT σ).mp m, h⟩, fun ⟨σ, m, h⟩ => ⟨σ, (hT σ).mpr m, h⟩⟩
    · unfold bitB
      rw [List.any_eq_true]
      exact ⟨fun ⟨σ, m, h⟩ => ⟨σ, (hT σ).mp m, Bool.and_eq_true_iff.mp h⟩, fun ⟨σ, m, h⟩ => ⟨σ, (hT σ).mpr m, Bool.and_eq_true_iff.mpr h⟩⟩
    · obtain ⟨σ, m⟩ := List.exists_mem_of_ne_nil _ c
      exact ⟨σ, (hT σ).mp m⟩
end
theorem mul_sg0 (P : PL) (k : Nat) (hk : P.length = k) (h4 : k ≤ 4) : mulU (.tup [.tup [.bl true, .bl false]]) (.int (k : Nat)) = some (sgU (sg0 P)) := by
  have : mulU (.tup [.tup [.bl true, .bl false]]) (.int (k : Nat)) = some (.tup (List.replicate k [U.tup [.bl true, .bl false]]).flatten) := by
    simp only [mulU]
    rw [if_pos ⟨by omega, by omega, by simp⟩]
    simp
  rw [this]
  unfold sgU sg0
  congr 2
  rw [hk]
  clear this hk h4
  induction k with
  | zero => rfl
  | succ k ih => rw [List.replicate_succ, List.flatten_cons, ih, List.replicate_succ]; rfl
theorem stepped_eq {L n f : Int} {W : List (List Int)} {kind : Str} {B : U} {P : PL} {ls : List Int} (hB : ByOk n kind B) (hP : POf n kind B P) (hW : WOk n L W) (hl : W.length < 50000) (n0 : 1 ≤ n) (n1 : n ≤ 4) :
    m__law_stepped (ptU L n f W kind B) (.tup (ls.map .int)) = .ret (stepU n.toNat (stepM W P n.toNat ls)) := by
  have sz : (1000000 : Nat) ≤ sizeLine := by decide
  obtain ⟨Z, eP, zl, hZ, ez⟩ := lpairs_eq (L := L) (f := f) (W := W) hB hP n0 (by omega)
  have p4 := hP.len4 hB n1
  have zP : Z.length = P.length := by rw [eP, List.length_map]
  refine eq_of_wp fun st => ?_
  unfold m__law_stepped
  refine .fn ?_
  walk_at "v"
  refine vs_eq ez ?_
  walk_at "v"
  refine vs_forN (e := fun j : Nat => U.lst ((List.range j).map fun r => U.tup (fnL n.toNat (stepM W P n.toNat ls r)))) (fun j t s => t = j ∧ s = st) (t0 := 0) rfl ⟨rfl, rfl⟩ ?_ ?_
  · rintro j i st hi ⟨rfl, rfl⟩
    walk_at "v"
    rw [List.length_map]
    refine ⟨_, mul_sg0 P Z.length zP.symm (by omega), ?_⟩
    walk_at "v"
    refine ⟨_, disp1N_at (f := knU) knF (x := ((i : Int), sg0 P)), ?_⟩
    walk_at "v"
    refine vs_for (c := U.int) (e := fun D : List (Int × Sg) => sN knU D) (fun pre D s => s = st ∧ OkT P n D ∧ ∀ p, p ∈ D ↔ LR W P (i : Nat) pre p.1 p.2) (t0 := [((i : Int), sg0 P)]) rfl ⟨rfl, ⟨List.pairwise_singleton _ _, fun p m => ?_⟩, fun p => ?_⟩ ?_ ?_
    · rw [List.mem_singleton.mp m]
      exact ⟨by show (0 : Int) ≤ (i : Nat); omega, by show ((i : Nat) : Int) < n; omega, by unfold sg0; rw [List.length_replicate]⟩
    · rw [List.mem_singleton]
      constructor
      · rintro rfl; exact ⟨rfl, rfl⟩
      · rintro ⟨h1, h2⟩; obtain ⟨a, b⟩ := p; simp only at h1 h2; rw [h1, h2]
    · rintro pre l post D st ex ⟨rfl, hD, hm⟩
      walk_at "v"
      refine vs_noRtx ?_
      walk_at "v"
      refine ⟨_, keysN_sN knF D, ?_⟩
      refine vs_for (c := knU) (e := fun T : List (Int × Sg) => sN knU T) (fun dn T s => s = st ∧ OkT P n T ∧ ∀ p, p ∈ T ↔ ∃ q ∈ dn, [q.1, l, p.1] ∈ W ∧ p.2 = entS P p.1 q.2) (t0 := []) rfl ⟨rfl, ⟨.nil, fun p m => nomatch m⟩, fun p => ⟨fun m => (nomatch m), fun ⟨q, m, _⟩ => (nomatch m)⟩⟩ ?_ ?_
      · rintro dn q rest T st ex2 ⟨rfl, hT, hmT⟩
        have hq := hD.2 q (by rw [ex2]; simp)
        obtain ⟨at_, σ⟩ := q
        show Wp (un2 (.tup [.int at_, sgU σ]) _) _ _
        refine vs_un2 ?_
        walk_at "v"
        refine vs_for (c := tupI) (e := fun T : List (Int × Sg) => sN knU T) (fun wp T' s => s = st ∧ OkT P n T' ∧ ∀ p, p ∈ T' ↔ p ∈ T ∨ ([at_, l, p.1] ∈ wp ∧ p.2 = entS P p.1 σ)) (t0 := T) rfl ⟨rfl, hT, fun p => ⟨.inl, fun h => h.elim id fun h => nomatch h.1⟩⟩ ?_ ?_
        · rintro wp w wr T' st ex3 ⟨rfl, hT', hm'⟩
          obtain ⟨a, b, c, ew, a0, a1, b0, b1, c0, c1⟩ := hW.1 w (by rw [ex3]; simp)
          subst ew
          have hput : ∀ p : Int × Sg, ([at_, l, p.1] ∈ wp ++ [[a, b, c]] ∧ p.2 = entS P p.1 σ) ↔ ([at_, l, p.1] ∈ wp ∧ p.2 = entS P p.1 σ) ∨ (at_ = a ∧ l = b ∧ p.1 = c ∧ p.2 = entS P p.1 σ) := fun p => by
            rw [List.mem_append, List.mem_singleton]
            constructor
            · rintro ⟨h | h, h2⟩
              · exact .inl ⟨h, h2⟩
              · simp only [List.cons.injEq, and_true] at h
                exact .inr ⟨h.1, h.2.1, h.2.2, h2⟩
            · rintro (⟨h, h2⟩ | ⟨h1, h2, h3, h4⟩)
              · exact ⟨.inl h, h2⟩
              · exact ⟨.inr (by rw [h1, h2, h3]), h4⟩
          have skip : ¬ (a = at_ ∧ b = l) → ∀ p, p ∈ T' ↔ p ∈ T ∨ ([at_, l, p.1] ∈ wp ++ [[a, b, c]] ∧ p.2 = entS P p.1 σ) := fun hne p => by
            rw [hput, hm' p]
            constructor
            · rintro (h | h)
              · exact .inl h
              · exact .inr (.inl h)
            · rintro (h | h | ⟨h1, h2, _⟩)
              · exact .inl h
              · exact .inr h
              · exact absurd ⟨h1.symm, h2.symm⟩ hne
          refine vs_un3 ?_
          walk_at "v"
          by_cases ca : a = at_
          · refine if_p ca ?_
            walk_at "v"
            by_cases cb : b = l
            · refine if_p cb ?_
              walk_at "v"
              refine vs_eq (lentered_eq hZ zl c0 c1) ?_
              rw [← eP]
              walk_at "v"
              have hk : 0 ≤ c ∧ c < n ∧ (entS P c σ).length = P.length := ⟨c0, c1, ent_len hq.2.2⟩
              refine ⟨_, putN_sN knF (x := (c, entS P c σ)) hT'.1 (by have := hT'.len p4 (by omega); omega), ?_⟩
              walk_at "v"
              have key : ∀ T2 : List (Int × Sg), (((c, entS P c σ) ∈ T' ∧ T2 = T') ∨ ((c, entS P c σ) ∉ T' ∧ T2 = T' ++ [(c, entS P c σ)])) → OkT P n T2 ∧ ∀ p, p ∈ T2 ↔ p ∈ T' ∨ p = (c, entS P c σ) := by
                rintro T2 (⟨h, rfl⟩ | ⟨h, rfl⟩)
                · exact ⟨hT', fun p => ⟨.inl, fun z => z.elim id fun z => z ▸ h⟩⟩
                · exact ⟨hT'.add h hk, fun p => by rw [List.mem_append, List.mem_singleton]⟩
              have key2 : ∀ T2 : List (Int × Sg), (((c, entS P c σ) ∈ T' ∧ T2 = T') ∨ ((c, entS P c σ) ∉ T' ∧ T2 = T' ++ [(c, entS P c σ)])) → OkT P n T2 ∧ ∀ p, p ∈ T2 ↔ p ∈ T ∨ ([at_, l, p.1] ∈ wp ++ [[a, b, c]] ∧ p.2 = entS P p.1 σ) := fun T2 h => by
                obtain ⟨k1, k2⟩ := key T2 h
                refine ⟨k1, fun p => ?_⟩
                rw [k2 p, hput, hm' p]
                constructor
                · rintro ((h | h) | h)
                  · exact .inl h
                  · exact .inr (.inl h)
                  · exact .inr (.inr ⟨ca.symm, cb.symm, by rw [h], by rw [h]⟩)
                · rintro (h | h | ⟨_, _, h1, h2⟩)
                  · exact .inl (.inl h)
                  · exact .inl (.inr h)
                  · right; obtain ⟨p1, p2⟩ := p; simp only at h1 h2; rw [h2, h1]
              refine ⟨_, rfl, rfl, key2 _ ?_⟩
              split
              · rename_i h; exact .inl ⟨h, rfl⟩
              · rename_i h; exact .inr ⟨h, rfl⟩
            · refine if_n cb ?_
              walk_at "v"
              exact ⟨T', rfl, rfl, hT', skip fun z => cb z.2⟩
          · refine if_n ca ?_
            walk_at "v"
            exact ⟨T', rfl, rfl, hT', skip fun z => ca z.1⟩
        · rintro T' st ⟨rfl, hT', hm'⟩
          walk_at "v"
          refine ⟨T', rfl, rfl, hT', fun p => ?_⟩
          rw [hm' p, hmT p]
          constructor
          · rintro (⟨q, m, h⟩ | h)
            · exact ⟨q, List.mem_append_left _ m, h⟩
            · exact ⟨(at_, σ), by simp, h⟩
          · rintro ⟨q, m, h⟩
            rcases List.mem_append.mp m with m | m
            · exact .inl ⟨q, m, h⟩
            · rw [List.mem_singleton.mp m] at h; exact .inr h
      · rintro T st ⟨rfl, hT, hmT⟩
        walk_at "v"
        refine ⟨T, rfl, rfl, hT, fun p => ?_⟩
        rw [hmT p, LR_snoc]
        constructor
        · rintro ⟨q, m, h1, h2⟩; exact ⟨q.1, q.2, (hm q).mp m, h1, h2⟩
        · rintro ⟨a, τ, h, h1, h2⟩; exact ⟨(a, τ), (hm (a, τ)).mpr h, h1, h2⟩
    · rintro D st ⟨rfl, hD, hm⟩
      walk_at "v"
      have cB := comp_eq (c := fun e : Nat => U.int (e : Nat)) (d := fun v : Nat => U.int (v : Nat)) (p := fun _ : Nat => true) (g := fun e : Nat => stepM W P n.toNat ls i e) (xs := List.range n.toNat) (wt := fun end_23 => (.ret true)) (we := fun end_23 => (callM (L3 m__law_bits) (consA (.ret (sN knU D)) (consA (.ret end_23) (consA (op1 lenU (.ret (.lst (Z.map czU)))) nilA))))) fun e me => ⟨rfl, fun _ => eq_of_wp fun st => by
          have he := List.mem_range.mp me
          walk_at "v"
          rw [List.length_map]
          refine vs_eq (bits_eq (k := Z.length) (by omega) (fun p m => by rw [zP]; exact (hD.2 p m).2.2) (hD.len p4 (by omega))) ?_
          rw [zP, law_bits hW hi he hm]
          exact ⟨rfl, rfl⟩⟩
      rw [List.filter_eq_self.mpr (fun _ _ => rfl)] at cB
      refine vs_eq cB ⟨by rw [List.length_map, List.length_map, List.length_range]; omega, ?_⟩
      walk_at "v"
      refine wo_app (by rw [List.length_map, List.length_range]; omega) ?_
      walk_at "v"
      refine ⟨i + 1, ?_, rfl, rfl⟩
      rw [List.range_succ, List.map_append, List.map_map]
      rfl
  · rintro _ st ⟨rfl, rfl⟩
    walk_at "v"
    exact ⟨rfl, rfl⟩

theorem cut_mapL {α β : Type} (f : α → β) (xs : List α) (lo hi : Option Int) : EL.cut (xs.map f) lo hi = (EL.cut xs lo hi).map f := by
  unfold EL.cut
  rw [List.length_map, ← List.map_drop, ← List.map_take]
theorem stepM_lt {W : List (List Int)} {n L : Int} {P : PL} {ls : List Int} (hW : WOk n L W) {i e : Nat} (hi : i < n.toNat) (he : e < n.toNat) : stepM W P n.toNat ls i e < mkN P.length := by
  obtain ⟨h0, h1, h2⟩ := stepM_bits (P := P) hW ls i e hi he
  unfold mkN
  refine Nat.lt_pow_two_of_testBit _ fun j hj => ?_
  rcases Nat.mod_two_eq_zero_or_one j with q | q
  · obtain ⟨k, rfl⟩ : ∃ k, j = 2 * k + 2 := ⟨j / 2 - 1, by omega⟩
    rw [Bool.eq_false_iff]
    exact fun z => by have := ((h2 k).mp z).1; omega
  · obtain ⟨k, rfl⟩ : ∃ k, j = 2 * k + 1 := ⟨j / 2, by omega⟩
    rw [Bool.eq_false_iff]
    exact fun z => by have := ((h1 k).mp z).1; omega
theorem step_repr {W : List (List Int)} {n L : Int} {P : PL} {ls : List Int} (hW : WOk n L W) (n1 : n ≤ 10) (pl : P.length ≤ 14) : ∃ x, reprU (stepU n.toNat (stepM W P n.toNat ls)) = some (.str x) := by
  have hb := mkN_lt (k := P.length) (by omega)
  have hs : ∀ i, i < n.toNat → smA (fnL n.toNat (stepM W P n.toNat ls i)) = true ∧ dpA (fnL n.toNat (stepM W P n.toNat ls i)) ≤ 0 ∧ wtA (fnL n.toNat (stepM W P n.toNat ls i)) ≤ 1100 := fun i hi => by
    unfold fnL
    refine ⟨smA_map fun e me => ?_, ?_, ?_⟩
    · have := stepM_lt (ls := ls) (P := P) hW hi (List.mem_range.mp me)
      show decide (((stepM W P n.toNat ls i e : Nat) : Int).natAbs < 1000000000000) = true
      rw [Int.natAbs_natCast]
      exact decide_eq_true (by omega)
    · have : ∀ es : List Nat, dpA (es.map fun e => U.int (stepM W P n.toNat ls i e : Nat)) ≤ 0 := by
        intro es
        induction es with
        | nil => exact Nat.le_refl _
        | cons e es ih => rw [List.map_cons]; show max 0 _ ≤ 0; omega
      exact this _
    · have := wtA_map (c := fun e : Nat => U.int (stepM W P n.toNat ls i e : Nat)) (k := 100) (xs := List.range n.toNat) fun _ _ => Nat.le_refl _
      rw [List.length_range] at this
      omega
  refine repr_sm ?_ ?_ ?_
  · show smA _ = true
    exact smA_map fun i mi => (hs i (List.mem_range.mp mi)).1
  · have : ∀ is : List Nat, (∀ i ∈ is, i < n.toNat) → dpA (is.map fun i => U.tup (fnL n.toNat (stepM W P n.toNat ls i))) ≤ 1 := by
      intro is
      induction is with
      | nil => intro _; exact Nat.zero_le _
      | cons i is ih =>
        intro h
        have h1 := ih fun j m => h j (List.mem_cons_of_mem _ m)
        have h2 := (hs i (h i List.mem_cons_self)).2.1
        rw [List.map_cons]
        show max (dpA (fnL n.toNat (stepM W P n.toNat ls i)) + 1) _ ≤ 1
        omega
    have := this (List.range n.toNat) fun i mi => List.mem_range.mp mi
    show dpA _ + 1 ≤ 60
    omega
  · have := wtA_map (c := fun i : Nat => U.tup (fnL n.toNat (stepM W P n.toNat ls i))) (k := 1100) (xs := List.range n.toNat) fun i mi => (hs i (List.mem_range.mp mi)).2.2
    rw [List.length_range] at this
    show wtA _ ≤ 1000000
    have h3 : n.toNat * (1100 + 1) ≤ 10 * 1101 := Nat.mul_le_mul_right _ (by omega)
    omega
theorem step_on_eq {n L s0 l : Int} {W : List (List Int)} {kind : Str} {B : U} {G : List Dc} {P : PL} {ls : List Int} (hP : m_pairs_of (hallObj L n s0 W kind B G) = .ret (.tup (P.map pairU))) (hr : ∀ p ∈ P, Rs n p.1 ∧ Rs n p.2) (hB : ByOk n kind B) (pl : P.length ≤ 14) (hG : GOk n W G) (hW : WOk n L W) (hl : W.length < 50000) (n0 : 1 ≤ n) (n1 : n ≤ 50) :
    m_step_on (hallObj L n s0 W kind B G) (stepU n.toNat (stepM W P n.toNat ls)) (.int l) = .ret (stepU n.toNat (stepM W P n.toNat (ls ++ [l]))) := by
  refine eq_of_wp fun st => ?_
  unfold m_step_on
  walk_at "v"
  refine smk_at hP hr hB n0 n1 pl ?_
  walk_at "v"
  refine ⟨rfl, ?_⟩
  walk_at "v"
  refine vs_eq (onward_eq hG hW hl n0 n1) ?_
  walk_at "v"
  refine ⟨?_, rfl⟩
  unfold stepM alM
  rw [List.foldl_append]; rfl

theorem law_ok : ∀ ns : List Int, ns.length ≤ 63 → ∃ st', m_law (.frl (ns.map .int)) [] = some (.ok (.bl true), st') := by
  intro ns hns
  suffices h : Wp (m_law (.frl (ns.map .int))) [] fun u _ => u = .bl true by
    obtain ⟨u, st, e, rfl⟩ := h
    exact ⟨st, e⟩
  have sz : (1000000 : Nat) ≤ sizeLine := by decide
  unfold m_law
  walk_at "v"
  refine wo_eq (a := U.int (if (ns.length : Int) < 2 then (ns.length : Int) else 2)) (by simp [min2U]) ?_
  generalize em : (if (ns.length : Int) < 2 then (ns.length : Int) else 2) = m
  have m0 : 0 ≤ m := by rw [← em]; split <;> omega
  have m1 : m ≤ 2 := by rw [← em]; split <;> omega
  walk_at "v"
  refine vs_forN (e := fun _ : Unit => ()) (fun _ _ st => st.all cellN = true) (t0 := ()) rfl rfl ?_ ?_
  · rintro i _ ms hi hms
    walk_at "v"
    refine (box_ok hns (by omega)).mono ?_
    rintro _ st ⟨rfl, hb⟩
    walk_at "v"
    refine tk hb (by omega) (by decide) (by decide) fun a s a0 a1 hb => ?_
    walk_at "v"
    refine tk hb (by omega) (by decide) (by decide) fun b s b0 b1 hb => ?_
    walk_at "v"
    refine (parts_ok hb (by omega) (by omega) (by omega) (by omega) (by omega)).mono ?_
    rintro _ s ⟨⟨f, W, kind, B, rfl, f0, f1, hW, hk, hB⟩, hb⟩
    generalize eL : 1 + a = L at *
    generalize en : 1 + b = n at *
    have hWl := wok_len hW (by omega) (by omega)
    walk_at "v"
    refine made_ok (by omega) (by omega) (by omega) (by omega) f0 f1 hW (by omega) hB fun G hG => ?_
    obtain ⟨P, ⟨hPO, _⟩, hP⟩ := pairs_of_eq (L := L) (s := f) (W := W) (G := G) hB (by omega) (by omega)
    have hr := hPO.rs
    have pl := hPO.len hB (by omega)
    walk_at "v"
    refine vs_forN (e := fun _ : Unit => ()) (fun j _ st => Bx ms (4000 + j * 100) st) (t0 := ()) rfl (hb.up (by omega)) ?_ ?_
    · rintro j _ st hj hb
      walk_at "v"
      refine tk hb (by omega) (by decide) (by decide) fun c s c0 c1 hb => ?_
      walk_at "v"
      refine drC (r := 1 + c) (m := L) hb (by omega) (by omega) (by omega) (by omega) (fun u st Q h => by walk_at "v"; exact h) fun us s ul ub hb => ?_
      refine ⟨by rw [List.length_map]; omega, ?_⟩
      walk_at "v"
      refine vs_eq (step_of_eq hP hr hB pl hG hW (by omega) (by omega) (by omega)) ?_
      obtain ⟨x, hx⟩ := step_repr (ls := us) (P := P) hW (by omega) pl
      walk_at "v"
      refine ⟨_, hx, ?_⟩
      walk_at "v"
      refine vs_forN (e := fun _ : Unit => ()) (fun _ _ st => Bx ms (4000 + (j + 1) * 100) st) (t0 := ()) rfl (hb.up (by omega)) ?_ ?_
      · rintro l _ st hl hb
        obtain ⟨y, hy⟩ := step_repr (ls := us ++ [(l : Int)]) (P := P) hW (by omega) pl
        walk_at "v"
        refine vs_eq (step_on_eq hP hr hB pl hG hW (by omega) (by omega) (by omega)) ?_
        walk_at "v"
        refine ⟨_, hy, ?_⟩
        walk_at "v"
        refine wo_add_t (by rw [List.length_map]; simp; omega) ?_
        have e1 : us.map U.int ++ [U.int (l : Nat)] = (us ++ [(l : Int)]).map U.int := by simp
        rw [e1]
        walk_at "v"
        refine vs_eq (stepped_eq hB hPO hW (by omega) (by omega) (by omega)) ?_
        refine ⟨_, hy, ?_⟩
        walk_at "v"
        refine if_nn rfl ?_
        walk_at "v"
        refine ⟨_, hx, ?_⟩
        walk_at "v"
        refine if_nn rfl ?_
        walk_at "v"
        exact ⟨(), rfl, hb⟩
      · rintro _ st hb
        walk_at "v"
        exact ⟨(), rfl, hb⟩
    · rintro _ st hb
      walk_at "v"
      refine drC (r := 40) (m := L) hb (by omega) (by omega) (by omega) (by omega) (fun u st Q h => by walk_at "v"; exact h) fun us s ul ub hb => ?_
      refine ⟨by rw [List.length_map]; omega, ?_⟩
      walk_at "v"
      rw [cut_mapL]
      refine vs_eq (step_of_eq hP hr hB pl hG hW (by omega) (by omega) (by omega)) ?_
      walk_at "v"
      rw [cut_mapL]
      have c1 : EL.cut us none (some 1) = us.take 1 := EL.cut_upto (n := 1)
      have c2 : EL.cut us (some 1) none = us.drop 1 := EL.cut_from (n := 1)
      rw [c1, c2]
      refine vs_for (c := U.int) (e := fun ls : List Int => stepU n.toNat (stepM W P n.toNat ls)) (fun pre ls st => ls = us.take 1 ++ pre ∧ Bx ms 6000 st) (t0 := us.take 1) rfl ⟨by simp, hb.up (by omega)⟩ ?_ ?_
      · rintro pre l post _ st ex ⟨rfl, hb⟩
        walk_at "v"
        refine vs_eq (step_on_eq hP hr hB pl hG hW (by omega) (by omega) (by omega)) ?_
        walk_at "v"
        exact ⟨_, rfl, by simp, hb⟩
      · rintro _ st ⟨rfl, hb⟩
        rw [List.take_append_drop]
        obtain ⟨x, hx⟩ := step_repr (ls := us) (P := P) hW (by omega) pl
        walk_at "v"
        refine ⟨_, hx, ?_⟩
        walk_at "v"
        refine vs_eq (step_of_eq hP hr hB pl hG hW (by omega) (by omega) (by omega)) ?_
        refine ⟨_, hx, ?_⟩
        walk_at "v"
        refine if_nn rfl ?_
        walk_at "v"
        exact ⟨(), rfl, bx_cell hb hms⟩
  · rintro _ st -
    walk_at "v"
    rfl

open HD
theorem facts {P : Program} {w : World} {K : PySem.W.Frag} {h : Heap} {mg : Str → Option Value} {f : Addr} (X : K.In h) (G : h.Ns mainGlobals mg) (hfa : mg ("law" : Str) = some (.ref f)) (c0 : SaysU fa fn ts vls w K) :
    ∃ fd : FuncData, (∀ (s : Shared) (v : Value), BindsTo s fd ⟨[v], []⟩ [("_law_script", v)]) ∧ ∀ base : Heap, K.In base → base.Ns mainGlobals mg → FnG P w K mg base CX0 10 f fd ["_law_script"] (spM ⟨K, He.ga K⟩ (L1 m_law)) := by
  have c : SaysU fa fn ts vls w K := c0
  obtain ⟨fd__law_box, F__law_box⟩ := c.d.def_ 0 (d := mkD "_law_box" 30) rfl
  obtain ⟨fd__law_take, F__law_take⟩ := c.d.def_ 1 (d := mkD "_law_take" 31) rfl
  obtain ⟨fd__law_kind_by, F__law_kind_by⟩ := c.d.def_ 2 (d := mkD "_law_kind_by" 32) rfl
  obtain ⟨fd__law_parts, F__law_parts⟩ := c.d.def_ 3 (d := mkD "_law_parts" 33) rfl
  obtain ⟨fd_are_rising, F_are_rising⟩ := c.d.def_ 4 (d := mkD "are_rising" 7) rfl
  obtain ⟨fd_is_whole, F_is_whole⟩ := c.d.def_ 5 (d := mkD "is_whole" 5) rfl
  obtain ⟨fd_is_below, F_is_below⟩ := c.d.def_ 6 (d := mkD "is_below" 6) rfl
  obtain ⟨fd_are_rising_below, F_are_rising_below⟩ := c.d.def_ 7 (d := mkD "are_rising_below" 8) rfl
  obtain ⟨fd_are_rooms, F_are_rooms⟩ := c.d.def_ 8 (d := mkD "are_rooms" 13) rfl
  obtain ⟨fd_are_pairs, F_are_pairs⟩ := c.d.def_ 9 (d := mkD "are_pairs" 12) rfl
  obtain ⟨fd_are_ranks, F_are_ranks⟩ := c.d.def_ 10 (d := mkD "are_ranks" 14) rfl
  obtain ⟨fd_are_ways, F_are_ways⟩ := c.d.def_ 11 (d := mkD "are_ways" 11) rfl
  obtain ⟨fd_fault_of, F_fault_of⟩ := c.d.def_ 12 (d := mkD "fault_of" 17) rfl
  obtain ⟨fd_Hall___init__, F_Hall___init__⟩ := c.d.def_ 13 (d := mkMt "Hall" "__init__" "Hall.__init__" 21 0) rfl
  obtain ⟨fd__law_made, F__law_made⟩ := c.d.def_ 14 (d := mkD "_law_made" 34) rfl
  obtain ⟨fd_Hall_ends, F_Hall_ends⟩ := c.d.def_ 15 (d := mkMt "Hall" "ends" "Hall.ends" 21 1) rfl
  obtain ⟨fd_Strides_entered, F_Strides_entered⟩ := c.d.def_ 16 (d := mkMt "Strides" "entered" "Strides.entered" 26 1) rfl
  obtain ⟨fd_Strides_onward, F_Strides_onward⟩ := c.d.def_ 17 (d := mkMt "Strides" "onward" "Strides.onward" 26 2) rfl
  obtain ⟨fd_Strides_along, F_Strides_along⟩ := c.d.def_ 18 (d := mkMt "Strides" "along" "Strides.along" 26 3) rfl
  obtain ⟨fd_pairs_of_ranks, F_pairs_of_ranks⟩ := c.d.def_ 19 (d := mkD "pairs_of_ranks" 23) rfl
  obtain ⟨fd_pairs_of, F_pairs_of⟩ := c.d.def_ 20 (d := mkD "pairs_of" 24) rfl
  obtain ⟨fd_Strides___init__, F_Strides___init__⟩ := c.d.def_ 21 (d := mkMt "Strides" "__init__" "Strides.__init__" 26 0) rfl
  obtain ⟨fd_step_of, F_step_of⟩ := c.d.def_ 22 (d := mkD "step_of" 27) rfl
  obtain ⟨fd_step_on, F_step_on⟩ := c.d.def_ 23 (d := mkD "step_on" 28) rfl
  obtain ⟨fd__law_pairs, F__law_pairs⟩ := c.d.def_ 24 (d := mkD "_law_pairs" 35) rfl
  obtain ⟨fd__law_bits, F__law_bits⟩ := c.d.def_ 25 (d := mkD "_law_bits" 38) rfl
  obtain ⟨fd__law_entered, F__law_entered⟩ := c.d.def_ 26 (d := mkD "_law_entered" 37) rfl
  obtain ⟨fd__law_stepped, F__law_stepped⟩ := c.d.def_ 27 (d := mkD "_law_stepped" 36) rfl
  obtain ⟨fd_law, F_law⟩ := c.d.def_ 28 (d := mkD "law" 39) rfl
  have g : ∀ (i : Nat) (x : Str), fa[i]? = some (.glo x) → mg x = some (.ref (He.ga K x)) := fun i x e => He.glo_ok X G (c.d.fact i e)
  have m : ∀ (i : Nat) (x : Str), fa[i]? = some (.free x) → mg x = none := fun i x e => He.free_ok X G (c.d.fact i e)
  obtain ⟨t_MOST_LETTERS, k_MOST_LETTERS⟩ := He.int_ok X G (c.d.fact 63 (f := .int "MOST_LETTERS" 4) rfl)
  have g_law := g 22 "law" rfl
  cases hfa.symm.trans g_law
  let N : En w K mg := {
    m_abs := m 23 "abs" rfl,
    m_all := m 24 "all" rfl,
    m_any := m 25 "any" rfl,
    m_bool := m 26 "bool" rfl,
    m_enumerate := m 27 "enumerate" rfl,
    m_int := m 28 "int" rfl,
    m_isinstance := m 29 "isinstance" rfl,
    m_len := m 30 "len" rfl,
    m_list := m 31 "list" rfl,
    m_min := m 32 "min" rfl,
    m_range := m 33 "range" rfl,
    m_repr := m 34 "repr" rfl,
    m_set := m 35 "set" rfl,
    m_sorted := m 36 "sorted" rfl,
    m_str := m 37 "str" rfl,
    m_sum := m 38 "sum" rfl,
    m_tuple := m 39 "tuple" rfl,
    m_zip := m 40 "zip" rfl,
    fd__law_box := fd__law_box,
    F__law_box := F__law_box,
    g__law_box := g 0 "_law_box" rfl,
    b__law_box := F__law_box.bindsN fun _ _ _ _ _ _ us hl => match us, hl with | [_, _], _ => rfl,
    fd__law_take := fd__law_take,
    F__law_take := F__law_take,
    g__law_take := g 1 "_law_take" rfl,
    b__law_take := F__law_take.bindsN fun _ _ _ _ _ _ us hl => match us, hl with | [_, _], _ => rfl,
    fd__law_kind_by := fd__law_kind_by,
    F__law_kind_by := F__law_kind_by,
    g__law_kind_by := g 2 "_law_kind_by" rfl,
    b__law_kind_by := F__law_kind_by.bindsN fun _ _ _ _ _ _ us hl => match us, hl with | [_, _], _ => rfl,
    fd__law_parts := fd__law_parts,
    F__law_parts := F__law_parts,
    g__law_parts := g 3 "_law_parts" rfl,
    b__law_parts := F__law_parts.bindsN fun _ _ _ _ _ _ us hl => match us, hl with | [_, _, _], _ => rfl,
    fd_are_rising := fd_are_rising,
    F_are_rising := F_are_rising,
    g_are_rising := g 4 "are_rising" rfl,
    b_are_rising := F_are_rising.bindsN fun _ _ _ _ _ _ us hl => match us, hl with | [_], _ => rfl,
    fd_is_whole := fd_is_whole,
    F_is_whole := F_is_whole,
    g_is_whole := g 5 "is_whole" rfl,
    b_is_whole := F_is_whole.bindsN fun _ _ _ _ _ _ us hl => match us, hl with | [_], _ => rfl,
    fd_is_below := fd_is_below,
    F_is_below := F_is_below,
    g_is_below := g 6 "is_below" rfl,
    b_is_below := F_is_below.bindsN fun _ _ _ _ _ _ us hl => match us, hl with | [_, _], _ => rfl,
    fd_are_rising_below := fd_are_rising_below,
    F_are_rising_below := F_are_rising_below,
    g_are_rising_below := g 7 "are_rising_below" rfl,
    b_are_rising_below := F_are_rising_below.bindsN fun _ _ _ _ _ _ us hl => match us, hl with | [_, _], _ => rfl,
    fd_are_rooms := fd_are_rooms,
    F_are_rooms := F_are_rooms,
    g_are_rooms := g 8 "are_rooms" rfl,
    b_are_rooms := F_are_rooms.bindsN fun _ _ _ _ _ _ us hl => match us, hl with | [_, _], _ => rfl,
    fd_are_pairs := fd_are_pairs,
    F_are_pairs := F_are_pairs,
    g_are_pairs := g 9 "are_pairs" rfl,
    b_are_pairs := F_are_pairs.bindsN fun _ _ _ _ _ _ us hl => match us, hl with | [_, _], _ => rfl,
    fd_are_ranks := fd_are_ranks,
    F_are_ranks := F_are_ranks,
    g_are_ranks := g 10 "are_ranks" rfl,
    b_are_ranks := F_are_ranks.bindsN fun _ _ _ _ _ _ us hl => match us, hl with | [_, _], _ => rfl,
    fd_are_ways := fd_are_ways,
    F_are_ways := F_are_ways,
    g_are_ways := g 11 "are_ways" rfl,
    b_are_ways := F_are_ways.bindsN fun _ _ _ _ _ _ us hl => match us, hl with | [_, _, _], _ => rfl,
    fd_fault_of := fd_fault_of,
    F_fault_of := F_fault_of,
    g_fault_of := g 12 "fault_of" rfl,
    b_fault_of := F_fault_of.bindsN fun _ _ _ _ _ _ us hl => match us, hl with | [_, _, _, _, _, _], _ => rfl,
    fd_Hall___init__ := fd_Hall___init__,
    F_Hall___init__ := F_Hall___init__,
    b_Hall___init__ := F_Hall___init__.bindsN fun _ _ _ _ _ _ us hl => match us, hl with | [_, _, _, _, _, _, _], _ => rfl,
    fd__law_made := fd__law_made,
    F__law_made := F__law_made,
    g__law_made := g 13 "_law_made" rfl,
    b__law_made := F__law_made.bindsN fun _ _ _ _ _ _ us hl => match us, hl with | [_], _ => rfl,
    fd_Hall_ends := fd_Hall_ends,
    F_Hall_ends := F_Hall_ends,
    me_Hall_ends := He.meth_ok (c.d.fact 47 (f := .meth "Hall" "ends") rfl),
    b_Hall_ends := F_Hall_ends.bindsN fun _ _ _ _ _ _ us hl => match us, hl with | [_, _, _], _ => rfl,
    fd_Strides_entered := fd_Strides_entered,
    F_Strides_entered := F_Strides_entered,
    me_Strides_entered := He.meth_ok (c.d.fact 48 (f := .meth "Strides" "entered") rfl),
    b_Strides_entered := F_Strides_entered.bindsN fun _ _ _ _ _ _ us hl => match us, hl with | [_, _, _], _ => rfl,
    fd_Strides_onward := fd_Strides_onward,
    F_Strides_onward := F_Strides_onward,
    me_Strides_onward := He.meth_ok (c.d.fact 49 (f := .meth "Strides" "onward") rfl),
    b_Strides_onward := F_Strides_onward.bindsN fun _ _ _ _ _ _ us hl => match us, hl with | [_, _, _], _ => rfl,
    fd_Strides_along := fd_Strides_along,
    F_Strides_along := F_Strides_along,
    me_Strides_along := He.meth_ok (c.d.fact 50 (f := .meth "Strides" "along") rfl),
    b_Strides_along := F_Strides_along.bindsN fun _ _ _ _ _ _ us hl => match us, hl with | [_, _], _ => rfl,
    fd_pairs_of_ranks := fd_pairs_of_ranks,
    F_pairs_of_ranks := F_pairs_of_ranks,
    g_pairs_of_ranks := g 14 "pairs_of_ranks" rfl,
    b_pairs_of_ranks := F_pairs_of_ranks.bindsN fun _ _ _ _ _ _ us hl => match us, hl with | [_], _ => rfl,
    fd_pairs_of := fd_pairs_of,
    F_pairs_of := F_pairs_of,
    g_pairs_of := g 15 "pairs_of" rfl,
    b_pairs_of := F_pairs_of.bindsN fun _ _ _ _ _ _ us hl => match us, hl with | [_], _ => rfl,
    fd_Strides___init__ := fd_Strides___init__,
    F_Strides___init__ := F_Strides___init__,
    b_Strides___init__ := F_Strides___init__.bindsN fun _ _ _ _ _ _ us hl => match us, hl with | [_, _], _ => rfl,
    fd_step_of := fd_step_of,
    F_step_of := F_step_of,
    g_step_of := g 16 "step_of" rfl,
    b_step_of := F_step_of.bindsN fun _ _ _ _ _ _ us hl => match us, hl with | [_, _], _ => rfl,
    fd_step_on := fd_step_on,
    F_step_on := F_step_on,
    g_step_on := g 17 "step_on" rfl,
    b_step_on := F_step_on.bindsN fun _ _ _ _ _ _ us hl => match us, hl with | [_, _, _], _ => rfl,
    fd__law_pairs := fd__law_pairs,
    F__law_pairs := F__law_pairs,
    g__law_pairs := g 18 "_law_pairs" rfl,
    b__law_pairs := F__law_pairs.bindsN fun _ _ _ _ _ _ us hl => match us, hl with | [_], _ => rfl,
    fd__law_bits := fd__law_bits,
    F__law_bits := F__law_bits,
    g__law_bits := g 19 "_law_bits" rfl,
    b__law_bits := F__law_bits.bindsN fun _ _ _ _ _ _ us hl => match us, hl with | [_, _, _], _ => rfl,
    fd__law_entered := fd__law_entered,
    F__law_entered := F__law_entered,
    g__law_entered := g 20 "_law_entered" rfl,
    b__law_entered := F__law_entered.bindsN fun _ _ _ _ _ _ us hl => match us, hl with | [_, _, _], _ => rfl,
    fd__law_stepped := fd__law_stepped,
    F__law_stepped := F__law_stepped,
    g__law_stepped := g 21 "_law_stepped" rfl,
    b__law_stepped := F__law_stepped.bindsN fun _ _ _ _ _ _ us hl => match us, hl with | [_, _], _ => rfl,
    fd_law := fd_law,
    F_law := F_law,
    g_law := g 22 "law" rfl,
    b_law := F_law.bindsN fun _ _ _ _ _ _ us hl => match us, hl with | [_], _ => rfl,
    cl_Hall := He.cls_ok (c.d.fact 42 (f := .cls "Hall") rfl),
    mk_Hall := He.mkr_ok (c.d.fact 43 (f := .mkr "Hall") rfl),
    g_Hall := g 41 "Hall" rfl,
    cl_Strides := He.cls_ok (c.d.fact 45 (f := .cls "Strides") rfl),
    mk_Strides := He.mkr_ok (c.d.fact 46 (f := .mkr "Strides") rfl),
    g_Strides := g 44 "Strides" rfl,
    hf_walked := (allC ⟨He.cls_ok (c.d.fact 45 (f := .cls "Strides") rfl), He.noat_ok (c.d.fact 51 (f := .noat "Strides" "walked") rfl)⟩ allN),
    hf_staying := (allC ⟨He.cls_ok (c.d.fact 45 (f := .cls "Strides") rfl), He.noat_ok (c.d.fact 52 (f := .noat "Strides" "staying") rfl)⟩ allN),
    hf_rising := (allC ⟨He.cls_ok (c.d.fact 45 (f := .cls "Strides") rfl), He.noat_ok (c.d.fact 53 (f := .noat "Strides" "rising") rfl)⟩ allN),
    hf_marks := (allC ⟨He.cls_ok (c.d.fact 45 (f := .cls "Strides") rfl), He.noat_ok (c.d.fact 54 (f := .noat "Strides" "marks") rfl)⟩ allN),
    hf_letters := (allC ⟨He.cls_ok (c.d.fact 42 (f := .cls "Hall") rfl), He.noat_ok (c.d.fact 55 (f := .noat "Hall" "letters") rfl)⟩ allN),
    hf_rooms := (allC ⟨He.cls_ok (c.d.fact 42 (f := .cls "Hall") rfl), He.noat_ok (c.d.fact 56 (f := .noat "Hall" "rooms") rfl)⟩ allN),
    hf_start := (allC ⟨He.cls_ok (c.d.fact 42 (f := .cls "Hall") rfl), He.noat_ok (c.d.fact 57 (f := .noat "Hall" "start") rfl)⟩ allN),
    hf_ways := (allC ⟨He.cls_ok (c.d.fact 42 (f := .cls "Hall") rfl), He.noat_ok (c.d.fact 58 (f := .noat "Hall" "ways") rfl)⟩ allN),
    hf_kind := (allC ⟨He.cls_ok (c.d.fact 42 (f := .cls "Hall") rfl), He.noat_ok (c.d.fact 59 (f := .noat "Hall" "kind") rfl)⟩ allN),
    hf_by := (allC ⟨He.cls_ok (c.d.fact 42 (f := .cls "Hall") rfl), He.noat_ok (c.d.fact 60 (f := .noat "Hall" "by") rfl)⟩ allN),
    hf_goals := (allC ⟨He.cls_ok (c.d.fact 42 (f := .cls "Hall") rfl), He.noat_ok (c.d.fact 61 (f := .noat "Hall" "goals") rfl)⟩ allN),
    g_KINDS := g 62 "KINDS" rfl,
    T_KINDS := tabF (c.keys 0 rfl) (c.val 0 rfl) (allC rfl (allC rfl (allC rfl (allC rfl allN)))),
    t_MOST_LETTERS := t_MOST_LETTERS,
    k_MOST_LETTERS := k_MOST_LETTERS }
  have b_law := FunD.bindsA (ps := ["_law_script"]) F_law fun _ _ _ _ _ _ us hl => match us, hl with | [_], _ => rfl
  exact ⟨fd_law, fun s v => b_law s [v] rfl, fun base _ _ => w_law N⟩
end EK
open PySem PySem.W PySem.Calls PyProof.Rows
set_option maxHeartbeats 0 in
theorem PySem.Challenge.cw_endlesshall_k25_steps_of_one_letter_more_holds : PySem.Challenge.rw_endlesshall_k25_steps_of_one_letter_more.Holds := by
  w_on; o_law
  refine HandSHeadRun.head_any (r := EK.HD.Rw) (q := view EK.HD.Rw.prog [39]) (H := EK.HD.hk) (ob := EK.HD.ob) (M := 6000) (loose := EK.HD.names) (d := HandSHeadRun.topDef EK.HD.Rw.prog 39) (kwd := []) EK.HD.ob_eq
    (by kernel_rfl) (fun s => by kernel_rfl) EK.HD.run (by kernel_rfl) (by kernel_rfl) (by kernel_rfl) (by rfl) (by first | assumption | decide +kernel) (by decide +kernel) ⟨rfl, rfl, rfl, rfl, rfl, by decide +kernel⟩ ?hw ?hc
  case hw => w_witness2
  case hc =>
    refine EL.walkG (l := PySem.Challenge.rw_endlesshall_k25_steps_of_one_letter_more) (n := 63) (k := 10) (x := "_law_script") rfl (by decide) (by kernel_rfl) ⟨rfl, by decide, by decide⟩ ?F
    intro w mg fa h Y G hmg0
    obtain ⟨K, KX, c⟩ := Y
    have hmg : mg ("law" : PySem.Str) = some (.ref fa) := by
      have e : (HandSHeadRun.topDef EK.HD.Rw.prog 39).name = ("law" : PySem.Str) := by kernel_rfl
      rw [← e]
      exact hmg0
    obtain ⟨fd, hb, hF⟩ := EK.facts (P := (PySem.Challenge.rw_endlesshall_k25_steps_of_one_letter_more).prog) (w := w) KX G hmg c
    exact ⟨K, fd, _, KX, hb, fun H a ns hl _ hS => UX.sp_law EK.law_ok hl hS, hF⟩


