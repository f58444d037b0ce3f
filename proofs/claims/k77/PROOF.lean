import PyProof.Rows.All
import Wide.All
import OpenK.AllK
import Wide.FinOn
import KE.KStateDown
import Lean
import HandS.ForMost
import HandS.More
import HandS.WordsExc
import HandS.Defaults
import HandS.IsInst
import HandS.TupAny
import HandS.TupMul
import HandS.Head0
import HandS.Head1
import HandS.Head2
import HandS.HeadEnd
import HandS.HeadHook1
import HandS.HeadHook2
import PyProof.ListMulRoad
import KE.KUnpackStar
import PyProof.FactsAll.tuple_2
import HandS.Style
import HandS.Walk
import HandS.Codes
import KE.LtData
import HandS.Zip
import HandS.Deep
import HandS.TupSets
import HandS.SetKeys
import HandS.BoundDict
import KE.KeyNested
import KE.KDictKeyed
import HandS.CallLocal
import HandS.HeadHook3
import PyProof.WalksMore
import HandS.HeadHook4
import KE.GoesEnum
import KE.GoesMore
import HandS.SetBool
import HandS.Strs
import HandS.SetFor
import HandS.Conv
import PyProof.DictMoreH
import KE.KDictPairs
import HandS.DictComp
import HandS.SortKw
import KE.DataMinMax
import KE.KDictCopyH
import HandS.Rev
import HandS.OwnEq
import HandS.NamedTupGet
import PyProof.InstNe
import KE.KCallOwn
import HandS.MakeKwOnly
import HandS.Text
import HandS.RaiseMore
import HandS.FStr
import HandS.SortInts
import HandS.TupLen
import PyProof.Rows.TupDisplay
import HandS.DictTup
import HandS.SortOrd
import HandS.Exc
import HandS.ExcOwn
import HandS.TryOnly
import HandS.ExcValue
import HandS.ExcIs
import PyProof.NeKinds
import PyProof.ReprRoads
import HandS.Iter
import PySem.Challenge.RW_endlesshall_k77_pairs_that_follow_looked
set_option Elab.async false
set_option linter.all false
set_option maxRecDepth 100000
set_option maxHeartbeats 4000000
set_option autoImplicit false
namespace EL
open PySem PySem.Spec PyProof.Rows L2
theorem mul_same (l : Addr) (its : Array Value) (n : Nat) (dd : Option Addr) (sl : Array (Option Value)) (x : Int) (u : Tok) (c0 : (decide (x < -(2 ^ 63)) || decide (x ≥ 2 ^ 63)) = false) (c1 : (its.isEmpty || x == 1) = true) :
    Meets (Builtin.«tuple.__mul__» ⟨[.ref l, .int x u], []⟩) (fun _ R s => s.heap.get? l = some { cls := .type "tuple", dict := dd, data := .seq its n, slots := sl } ∧ R (.ok (.ret (Value.ref l))) s) :=
  .of_wp fun prog w A R s h => by
    obtain ⟨hp, g, d, tk, os⟩ := s
    obtain ⟨hl, h⟩ := h
    have f1 := AutoSeq1.idx_int
    wp_walk using wpAny_loadPart' hl
    repeat (first
      | (refine wpAny_ite_false (decide_eq_false (by rw [c0]; exact Bool.false_ne_true)) ?_; wp_walk using wpAny_loadPart' hl)
      | (refine wpAny_ite_true (decide_eq_true c1) ?_; wp_walk using wpAny_loadPart' hl))
    exact ⟨_, rfl, h⟩
theorem mul_none (l : Addr) (its : Array Value) (n : Nat) (dd : Option Addr) (sl : Array (Option Value)) (x : Int) (u : Tok) (c0 : (decide (x < -(2 ^ 63)) || decide (x ≥ 2 ^ 63)) = false) (c1 : (its.isEmpty || x == 1) = false) (c2 : (decide (x ≤ 0) || its.isEmpty) = true) :
    Meets (Builtin.«tuple.__mul__» ⟨[.ref l, .int x u], []⟩) (fun _ R s => s.heap.get? l = some { cls := .type "tuple", dict := dd, data := .seq its n, slots := sl } ∧
      R (.ok (.ret (Value.ref s.heap.objs.size))) { s with heap := s.heap.push { cls := Value.type "tuple", data := Data.seq #[] }, toks := s.toks }) :=
  .of_wp fun prog w A R s h => by
    obtain ⟨hp, g, d, tk, os⟩ := s
    obtain ⟨hl, h⟩ := h
    have f1 := AutoSeq1.idx_int
    wp_walk using wpAny_loadPart' hl
    repeat (first
      | (refine wpAny_ite_false (decide_eq_false (by rw [c0]; exact Bool.false_ne_true)) ?_; wp_walk using wpAny_loadPart' hl)
      | (refine wpAny_ite_false (decide_eq_false (by rw [c1]; exact Bool.false_ne_true)) ?_; wp_walk using wpAny_loadPart' hl)
      | (refine wpAny_ite_true (decide_eq_true c2) ?_; wp_walk using wpAny_loadPart' hl))
    exact ⟨_, rfl, h⟩
def rRepA (K : PySem.W.Frag) : R2 := fun x y H Q => ∃ l k xs, x = .ref l ∧ y = .int k ∧ SqT K H l xs ∧ 0 ≤ k ∧ k ≤ 1000 ∧ xs.length ≤ 1000 ∧ ((xs = [] ∨ k = 1) → Q (.ref l) H) ∧
  (xs ≠ [] → k ≠ 1 → ∀ p, H p = none → Q (.ref p) (upd H p (.tup (List.replicate k.toNat xs).flatten)))
section
variable {X : Cx}
theorem op_repA : OpR X (binaryOp .Mult) (rRepA X.K) := by
  intro pins s σ H x y v u Q I rx ry h
  obtain ⟨l, k, xs, rfl, rfl, hT, k0, k1, hz, q1, q2⟩ := h
  by_cases hs : xs = [] ∨ k = 1
  · cases rx
    obtain ⟨t, rfl⟩ := ry
    obtain ⟨its, r, ⟨⟨cls, dd, data, sl⟩, ho, hc, n, hd⟩, hsz⟩ := I.tuple hT
    simp only at hc hd
    subst hc hd
    have c0 : (decide (k < -(2 ^ 63)) || decide (k ≥ 2 ^ 63)) = false := by
      rw [decide_eq_false (by omega), decide_eq_false (by omega)]; rfl
    have c1 : (its.toArray.isEmpty || k == 1) = true := by
      rcases hs with e | e
      · subst e
        have : its = [] := List.eq_nil_of_length_eq_zero r.length.symm
        subst this
        rfl
      · subst e
        exact Bool.or_true _
    exact wpAny_binaryOp_repeat_ref (T := "tuple") (U := "int") (by decide) ⟨_, ho, rfl⟩ (fun s' => typeIs_int s' k t) noFill_tuple_mul F.fills_int_mul F.slot_int_rmul repeat_tuple F.slot_int_index.lookup
      (call_meets F.slot_int_rmul (typeIs_int s k t) F.entry_int_rmul (F.args_int_rmul_2 _ _) (int_rmul_tuple k t l its.toArray n dd sl)
        ⟨ho, rfl, ⟨_, ho, rfl⟩, call_meets F.slot_tuple_mul ⟨_, ho, rfl⟩ F.entry_tuple_mul (F.args_tuple_mul_2 _ _) (mul_same l its.toArray n dd sl k t c0 c1) ⟨ho, ⟨.ref l, H, I, rfl, q1 hs⟩⟩⟩)
  · have hx : xs ≠ [] := fun e => hs (.inl e)
    have hk1 : k ≠ 1 := fun e => hs (.inr e)
    by_cases h2 : 2 ≤ k
    · exact op_repT pins s σ H _ _ v u Q I rx ry ⟨l, k, xs, rfl, rfl, hT, hx, h2, k1, hz, q2 hx hk1⟩
    · have e0 : k = 0 := by omega
      subst e0
      cases rx
      obtain ⟨t, rfl⟩ := ry
      obtain ⟨its, r, ⟨⟨cls, dd, data, sl⟩, ho, hc, n, hd⟩, hsz⟩ := I.tuple hT
      simp only at hc hd
      subst hc hd
      have hi : its.toArray.isEmpty = false := by
        cases its with
        | nil => exact absurd (List.eq_nil_of_length_eq_zero r.length) hx
        | cons a b => rfl
      refine wpAny_binaryOp_repeat_ref (T := "tuple") (U := "int") (by decide) ⟨_, ho, rfl⟩ (fun s' => typeIs_int s' 0 t) noFill_tuple_mul F.fills_int_mul F.slot_int_rmul repeat_tuple F.slot_int_index.lookup
        (call_meets F.slot_int_rmul (typeIs_int s 0 t) F.entry_int_rmul (F.args_int_rmul_2 _ _) (int_rmul_tuple 0 t l its.toArray n dd sl)
          ⟨ho, rfl, ⟨_, ho, rfl⟩, call_meets F.slot_tuple_mul ⟨_, ho, rfl⟩ F.entry_tuple_mul (F.args_tuple_mul_2 _ _) (mul_none l its.toArray n dd sl 0 t (by decide) (by rw [hi]; rfl) (by rw [hi]; rfl)) ⟨ho, ?_⟩⟩)
      refine ⟨.ref s.heap.objs.size, _, I.laid (t' := s.toks) (o := .tup []) (fun b ob z => Heap.get?_push_of_some _ z) (Nat.le_refl _) ?_, rfl, q2 hx hk1 _ (I.hok.fresh (Nat.le_refl _))⟩
      exact ⟨Nat.zero_le _, [], .nil, IsTup.new _ _⟩
end
section
variable {X : Cx}
end
end EL

set_option Elab.async false
set_option linter.all false
set_option maxRecDepth 100000
set_option maxHeartbeats 4000000
set_option autoImplicit false
namespace EL
open PySem PySem.Spec PyProof.Rows L2

def Ex (H H' : Hp) : Prop := ∀ a o, H a = some o → H' a = some o
theorem Ex.refl (H : Hp) : Ex H H := fun _ _ h => h
theorem Ex.trans {H H1 H2 : Hp} (a : Ex H H1) (b : Ex H1 H2) : Ex H H2 := fun x o h => b x o (a x o h)
theorem Ex.new {H : Hp} {p : Addr} {o : HO} (h : H p = none) : Ex H (upd H p o) := fun a u e => by
  rw [upd_ne (ne_of_none e h)]; exact e
theorem Ex.mut {H H' : Hp} {p : Addr} {o : HO} (e : Ex H H') (h : H p = none) : Ex H (upd H' p o) := fun a u ha => by
  rw [upd_ne (ne_of_none ha h)]; exact e a u ha
theorem Ex.free {H H' : Hp} (e : Ex H H') {p : Addr} (h : H' p = none) : H p = none := by
  cases q : H p with
  | none => rfl
  | some o => rw [e p o q] at h; cases h

abbrev Bn := Addr → Prop
structure RB (B : Bn) (H H' : Hp) : Prop where
  keep : ∀ a o, ¬ B a → H a = some o → H' a = some o
  tup : ∀ a xs, H a = some (.tup xs) → H' a = some (.tup xs)
  frz : ∀ a o u, H a = some (.frz o u) → H' a = some (.frz o u)
  ban : ∀ a, B a → H a ≠ none → H' a ≠ none
def BOk (B : Bn) (H : Hp) : Prop := ∀ a, B a → H a ≠ none
theorem RB.refl {B : Bn} (H : Hp) : RB B H H := ⟨fun _ _ _ h => h, fun _ _ h => h, fun _ _ _ h => h, fun _ _ h => h⟩
theorem RB.trans {B : Bn} {H H1 H2 : Hp} (a : RB B H H1) (b : RB B H1 H2) : RB B H H2 :=
  ⟨fun x o n h => b.keep x o n (a.keep x o n h), fun x o h => b.tup x o (a.tup x o h), fun x o u h => b.frz x o u (a.frz x o u h), fun x n h => b.ban x n (a.ban x n h)⟩
theorem RB.of_ex {B : Bn} {H H' : Hp} (e : Ex H H') : RB B H H' := ⟨fun a o _ h => e a o h, fun a o h => e a _ h, fun a o u h => e a _ h, fun a _ h => by
  cases q : H a with
  | none => exact absurd q h
  | some o => rw [e a o q]; exact fun z => nomatch z⟩
theorem RB.sub {B B' : Bn} {H H' : Hp} (s : ∀ a, B a → B' a) (r : RB B H H') : RB B' H H' := ⟨fun a o n h => r.keep a o (fun z => n (s a z)) h, r.tup, r.frz, fun a _ h => by
  rcases Classical.em (B a) with q | q
  · exact r.ban a q h
  · cases e : H a with
    | none => exact absurd e h
    | some o => rw [r.keep a o q e]; exact fun z => nomatch z⟩
theorem BOk.mono {B : Bn} {H H' : Hp} (o : BOk B H) (r : RB B H H') : BOk B H' := fun a b => r.ban a b (o a b)
theorem BOk.none {H : Hp} : BOk (fun _ => False) H := fun _ z => z.elim
theorem RB.sqT {B : Bn} {K : PySem.W.Frag} {H H' : Hp} {a : Addr} {xs : List V} (r : RB B H H') (h : SqT K H a xs) : SqT K H' a xs := by
  rcases h with (h | ⟨o, h⟩) | h
  · exact .inl (.inl (r.tup _ _ h))
  · exact .inl (.inr ⟨o, r.frz _ _ _ h⟩)
  · exact .inr h
theorem RB.sqL {B : Bn} {K : PySem.W.Frag} {H H' : Hp} {a : Addr} {xs : List V} (r : RB B H H') (n : ¬ B a) (h : SqL K H a xs) : SqL K H' a xs := by
  rcases h with (h | ⟨o, h⟩) | h
  · exact .inl (.inl (r.keep _ _ n h))
  · exact .inl (.inr ⟨o, r.frz _ _ _ h⟩)
  · exact .inr h
theorem Ex.sqT {K : PySem.W.Frag} {H H' : Hp} {a : Addr} {xs : List V} (r : Ex H H') (h : SqT K H a xs) : SqT K H' a xs := (RB.of_ex (B := fun _ => False) r).sqT h
theorem Ex.sqL {K : PySem.W.Frag} {H H' : Hp} {a : Addr} {xs : List V} (r : Ex H H') (h : SqL K H a xs) : SqL K H' a xs := (RB.of_ex (B := fun _ => False) r).sqL (fun z => z) h
theorem sqT_of {K : PySem.W.Frag} {H : Hp} {a : Addr} {xs : List V} (h : H a = some (.tup xs)) : SqT K H a xs := .inl (.inl h)
theorem sqL_of {K : PySem.W.Frag} {H : Hp} {a : Addr} {xs : List V} (h : H a = some (.lst xs)) : SqL K H a xs := .inl (.inl h)

class Rok (B : Bn) (R : Hp → Hp → Prop) : Prop where
  rf : ∀ H, R H H
  tr : ∀ {H H1 H2}, R H H1 → R H1 H2 → R H H2
  ex : ∀ {H H'}, Ex H H' → R H H'
  rb : ∀ {H H'}, R H H' → RB B H H'
instance {B : Bn} : Rok B Ex := ⟨Ex.refl, Ex.trans, id, RB.of_ex⟩
instance {B : Bn} : Rok B (RB B) := ⟨RB.refl, RB.trans, RB.of_ex, id⟩

abbrev PV := V → Hp → Prop
class Stb (B : Bn) (p : PV) : Prop where
  st : ∀ {H H' v}, RB B H H' → p v H → p v H'
def isP (v : V) : PV := fun x _ => x = v
instance {B : Bn} {v : V} : Stb B (isP v) := ⟨fun _ h => h⟩
def exP {α : Type} (C : α → Prop) (q : α → PV) : PV := fun v H => ∃ a, C a ∧ q a v H
instance {B : Bn} {α : Type} {C : α → Prop} {q : α → PV} [∀ a, Stb B (q a)] : Stb B (exP C q) := ⟨fun r ⟨a, c, h⟩ => ⟨a, c, Stb.st r h⟩⟩

section
variable (K : PySem.W.Frag) (B : Bn)
mutual
/-- v is the data d, whose lists are none of B -/
def im : PyData → PV
  | .none => isP .non
  | .bool b => isP (.bl b)
  | .int i => isP (.int i)
  | .str x => isP (.str x)
  | .tuple ds => fun v H => ∃ a vs, v = .ref a ∧ SqT K H a vs ∧ imAll ds vs H
  | .list ds => fun v H => ∃ a vs, v = .ref a ∧ ¬ B a ∧ SqL K H a vs ∧ imAll ds vs H
  | .dict _ => fun _ _ => False
def imAll : List PyData → List V → Hp → Prop
  | [], vs, _ => vs = []
  | d :: ds, vs, H => ∃ v r, vs = v :: r ∧ im d v H ∧ imAll ds r H
end
end
section
variable {K : PySem.W.Frag} {B : Bn} {H H' : Hp} {v : V} {d : PyData}
mutual
theorem im_st (r : RB B H H') : ∀ (d : PyData) (v : V), im K B d v H → im K B d v H'
  | .none, _, h => h
  | .bool _, _, h => h
  | .int _, _, h => h
  | .str _, _, h => h
  | .tuple ds, _, ⟨a, vs, e, s, q⟩ => ⟨a, vs, e, r.sqT s, imAll_st r ds vs q⟩
  | .list ds, _, ⟨a, vs, e, n, s, q⟩ => ⟨a, vs, e, n, r.sqL n s, imAll_st r ds vs q⟩
  | .dict _, _, h => h.elim
theorem imAll_st (r : RB B H H') : ∀ (ds : List PyData) (vs : List V), imAll K B ds vs H → imAll K B ds vs H'
  | [], _, h => h
  | d :: ds, _, ⟨v, w, e, h1, h2⟩ => ⟨v, w, e, im_st r d v h1, imAll_st r ds w h2⟩
end
instance : Stb B (im K B d) := ⟨fun r h => im_st r _ _ h⟩
theorem imAll_len : ∀ {ds : List PyData} {vs : List V}, imAll K B ds vs H → vs.length = ds.length
  | [], _, h => by rw [show _ = _ from h]; rfl
  | d :: ds, _, ⟨v, w, e, _, h2⟩ => by rw [e, List.length_cons, List.length_cons, imAll_len h2]
theorem imAll_get : ∀ {ds : List PyData} {vs : List V} {i : Nat} {d : PyData}, imAll K B ds vs H → ds[i]? = some d → ∃ v, vs[i]? = some v ∧ im K B d v H
  | [], _, _, _, _, e => by simp at e
  | d :: ds, _, 0, d', ⟨v, w, e, h1, h2⟩, e' => by
    simp at e'; subst e' e; exact ⟨v, rfl, h1⟩
  | d :: ds, _, i + 1, d', ⟨v, w, e, h1, h2⟩, e' => by
    subst e
    obtain ⟨x, e1, e2⟩ := imAll_get (i := i) h2 (by simpa using e')
    exact ⟨x, by simpa using e1, e2⟩
theorem imAll_getV : ∀ {ds : List PyData} {vs : List V} {i : Nat} {v : V}, imAll K B ds vs H → vs[i]? = some v → ∃ d, ds[i]? = some d ∧ im K B d v H
  | [], _, _, _, h, e => by rw [show _ = _ from h] at e; simp at e
  | d :: ds, _, 0, v', ⟨v, w, e, h1, h2⟩, e' => by
    subst e; simp at e'; subst e'; exact ⟨d, rfl, h1⟩
  | d :: ds, _, i + 1, v', ⟨v, w, e, h1, h2⟩, e' => by
    subst e
    obtain ⟨x, e1, e2⟩ := imAll_getV (i := i) h2 (by simpa using e')
    exact ⟨x, by simpa using e1, e2⟩
theorem imAll_append : ∀ {ds es : List PyData} {vs ws : List V}, imAll K B ds vs H → imAll K B es ws H → imAll K B (ds ++ es) (vs ++ ws) H
  | [], _, _, _, h, h' => by rw [show _ = _ from h]; exact h'
  | d :: ds, es, _, ws, ⟨v, w, e, h1, h2⟩, h' => by
    subst e; exact ⟨v, w ++ ws, rfl, h1, imAll_append h2 h'⟩
theorem imAll_snoc {ds : List PyData} {vs : List V} {d : PyData} {v : V} (h : imAll K B ds vs H) (h' : im K B d v H) : imAll K B (ds ++ [d]) (vs ++ [v]) H := imAll_append h ⟨v, [], rfl, h', rfl⟩
theorem imAll_take : ∀ {ds : List PyData} {vs : List V} (n : Nat), imAll K B ds vs H → imAll K B (ds.take n) (vs.take n) H
  | _, _, 0, _ => rfl
  | [], _, n + 1, h => by rw [show _ = _ from h]; rfl
  | d :: ds, _, n + 1, ⟨v, w, e, h1, h2⟩ => by subst e; exact ⟨v, _, rfl, h1, imAll_take n h2⟩
theorem imAll_drop : ∀ {ds : List PyData} {vs : List V} (n : Nat), imAll K B ds vs H → imAll K B (ds.drop n) (vs.drop n) H
  | _, _, 0, h => h
  | [], _, n + 1, h => by rw [show _ = _ from h]; rfl
  | d :: ds, _, n + 1, ⟨v, w, e, h1, h2⟩ => by subst e; exact imAll_drop n h2
theorem imAll_ints : ∀ {ns : List Int} {vs : List V}, imAll K B (ns.map .int) vs H ↔ vs = ns.map .int
  | [], vs => Iff.rfl
  | n :: ns, vs => by
    constructor
    · rintro ⟨v, w, e, h1, h2⟩
      rw [e, show v = .int n from h1, imAll_ints.mp h2]; rfl
    · intro e
      exact ⟨.int n, ns.map .int, e, rfl, imAll_ints.mpr rfl⟩
theorem imAll_bools : ∀ {bs : List Bool} {vs : List V}, imAll K B (bs.map .bool) vs H ↔ vs = bs.map .bl
  | [], vs => Iff.rfl
  | n :: ns, vs => by
    constructor
    · rintro ⟨v, w, e, h1, h2⟩
      rw [e, show v = .bl n from h1, imAll_bools.mp h2]; rfl
    · intro e
      exact ⟨.bl n, ns.map .bl, e, rfl, imAll_bools.mpr rfl⟩
mutual
theorem im_dp : ∀ (d : PyData) (v : V), im K B d v H → Dp K H v d
  | .none, _, h => by cases h; exact .non
  | .bool _, _, h => by cases h; exact .bl _
  | .int _, _, h => by cases h; exact .int _
  | .str _, _, h => by cases h; exact .str _
  | .tuple ds, _, ⟨a, vs, e, s, q⟩ => by subst e; exact .tup s (imAll_dp ds vs q)
  | .list ds, _, ⟨a, vs, e, n, s, q⟩ => by subst e; exact .lst s (imAll_dp ds vs q)
  | .dict _, _, h => h.elim
theorem imAll_dp : ∀ (ds : List PyData) (vs : List V), imAll K B ds vs H → DpAll K H vs ds
  | [], _, h => by rw [show _ = _ from h]; exact .nil
  | d :: ds, _, ⟨v, w, e, h1, h2⟩ => by subst e; exact .cons (im_dp d v h1) (imAll_dp ds w h2)
end
end

structure SD (B : Bn) (H : Hp) (σ : L2.St) (δ : List (Option PV)) : Prop where
  ok : BOk B H
  len : σ.length = δ.length
  at_ : ∀ (i : Nat) (p : PV), δ[i]? = some (some p) → Stb B p ∧ ∃ v, σ[i]? = some (some v) ∧ p v H
def wip (δ : List (Option PV)) : List Nat → List (Option PV)
  | [] => δ
  | v :: vs => (wip δ vs).set v none
section
variable {B : Bn} {H H' : Hp} {σ : L2.St} {δ : List (Option PV)} {p : PV} {v : V} {i : Nat}
theorem SD.mono (s : SD B H σ δ) (r : RB B H H') : SD B H' σ δ := ⟨s.ok.mono r, s.len, fun i p e => by
  obtain ⟨hp, v, h1, h2⟩ := s.at_ i p e
  exact ⟨hp, v, h1, hp.st r h2⟩⟩
theorem SD.set (s : SD B H σ δ) [hp : Stb B p] (h : p v H) : SD B H (σ.set i (some v)) (δ.set i (some p)) := by
  refine ⟨s.ok, by rw [List.length_set, List.length_set, s.len], fun j q e => ?_⟩
  by_cases hj : i = j
  · subst hj
    have hl : i < δ.length := by
      rcases Nat.lt_or_ge i δ.length with z | z
      · exact z
      · rw [List.getElem?_eq_none (by rw [List.length_set]; exact z)] at e; cases e
    rw [List.getElem?_set_self hl] at e
    cases e
    exact ⟨hp, v, List.getElem?_set_self (by rw [s.len]; exact hl), h⟩
  · rw [List.getElem?_set_ne hj] at e
    obtain ⟨hq, w, h1, h2⟩ := s.at_ j q e
    exact ⟨hq, w, by rw [List.getElem?_set_ne hj]; exact h1, h2⟩
theorem SD.unset (s : SD B H σ δ) {o : Option V} : SD B H (σ.set i o) (δ.set i none) := by
  refine ⟨s.ok, by rw [List.length_set, List.length_set, s.len], fun j q e => ?_⟩
  by_cases hj : i = j
  · subst hj
    have hl : i < δ.length := by
      rcases Nat.lt_or_ge i δ.length with z | z
      · exact z
      · rw [List.getElem?_eq_none (by rw [List.length_set]; exact z)] at e; cases e
    rw [List.getElem?_set_self hl] at e
    cases e
  · rw [List.getElem?_set_ne hj] at e
    obtain ⟨hq, w, h1, h2⟩ := s.at_ j q e
    exact ⟨hq, w, by rw [List.getElem?_set_ne hj]; exact h1, h2⟩
theorem SD.wipe (s : SD B H σ δ) : ∀ vs : List Nat, SD B H (wipe σ vs) (wip δ vs)
  | [] => s
  | v :: vs => (SD.wipe s vs).unset
def Weak : List (Option PV) → List (Option PV) → Prop
  | [], [] => True
  | _ :: a, none :: b => Weak a b
  | x :: a, y :: b => x = y ∧ Weak a b
  | _, _ => False
theorem Weak.len : ∀ {a b : List (Option PV)}, Weak a b → a.length = b.length
  | [], [], _ => rfl
  | _ :: a, none :: b, h => by rw [List.length_cons, List.length_cons, Weak.len (a := a) (b := b) h]
  | _ :: a, some _ :: b, h => by rw [List.length_cons, List.length_cons, Weak.len (a := a) (b := b) h.2]
  | [], _ :: _, h => h.elim
  | _ :: _, [], h => by cases h
theorem Weak.get : ∀ {a b : List (Option PV)} {i : Nat} {p : PV}, Weak a b → b[i]? = some (some p) → a[i]? = some (some p)
  | [], [], _, _, _, e => by simp at e
  | x :: a, none :: b, 0, p, _, e => by simp at e
  | x :: a, none :: b, i + 1, p, h, e => by
    have := Weak.get (a := a) (b := b) (i := i) (p := p) h (by simpa using e)
    simpa using this
  | x :: a, some y :: b, 0, p, h, e => by
    have e1 : y = p := by simpa using e
    rw [show x = some y from h.1, e1]; rfl
  | x :: a, some y :: b, i + 1, p, h, e => by
    have := Weak.get (a := a) (b := b) (i := i) (p := p) h.2 (by simpa using e)
    simpa using this
  | [], _ :: _, _, _, h, _ => h.elim
  | _ :: _, [], _, _, h, _ => by cases h
theorem SD.weak {δ' : List (Option PV)} (s : SD B H σ δ) (w : Weak δ δ') : SD B H σ δ' := ⟨s.ok, s.len.trans w.len, fun i p e => s.at_ i p (w.get e)⟩
theorem SD.get (s : SD B H σ δ) (e : δ[i]? = some (some p)) : ∃ v, σ[i]? = some (some v) ∧ p v H := (s.at_ i p e).2
end

section
variable (R : Hp → Hp → Prop) (B : Bn)
def Ev (te : TE) (δ : List (Option PV)) (H : Hp) (p : PV) : Prop := ∀ σ H1, R H H1 → SD B H1 σ δ → ∀ Q : VK, (∀ v H2, R H1 H2 → p v H2 → Q v H2) → te σ H1 Q
def EvT (tt : TT) (δ : List (Option PV)) (H : Hp) (b : Bool) : Prop := ∀ σ H1, R H H1 → SD B H1 σ δ → ∀ Q : Bool → Hp → Prop, (∀ H2, R H1 H2 → Q b H2) → tt σ H1 Q
def EvTx (tt : TT) (δ : List (Option PV)) (H : Hp) (C : Bool → Prop) : Prop := ∀ σ H1, R H H1 → SD B H1 σ δ → ∀ Q : Bool → Hp → Prop, (∀ b H2, C b → R H1 H2 → Q b H2) → tt σ H1 Q
def pAll : List PV → List V → Hp → Prop
  | [], vs, _ => vs = []
  | p :: ps, vs, H => ∃ v r, vs = v :: r ∧ p v H ∧ pAll ps r H
def EvA (ta : TA) (δ : List (Option PV)) (H : Hp) (ps : List PV) : Prop := ∀ σ H1, R H H1 → SD B H1 σ δ → ∀ Q : List V → Hp → Prop, (∀ vs H2, R H1 H2 → pAll ps vs H2 → Q vs H2) → ta σ H1 Q
def EvO (to : TO) (δ : List (Option PV)) (H : Hp) (o : Option Int) : Prop := ∀ σ H1, R H H1 → SD B H1 σ δ → ∀ Q : Option Int → Hp → Prop, (∀ H2, R H1 H2 → Q o H2) → to σ H1 Q
def RV (r : R2) (x y : V) (H : Hp) (p : PV) : Prop := ∀ Q : VK, (∀ v H2, Ex H H2 → p v H2 → Q v H2) → r x y H Q
def RC (r : List V → Hp → VK → Prop) (vs : List V) (H : Hp) (p : PV) : Prop := ∀ Q : VK, (∀ v H2, R H H2 → p v H2 → Q v H2) → r vs H Q
end
end EL

set_option Elab.async false
set_option linter.all false
set_option maxRecDepth 100000
set_option maxHeartbeats 4000000
set_option autoImplicit false
namespace EL
open PySem PySem.Spec PyProof.Rows L2
def rOr (r r' : R2) : R2 := fun x y H Q => r x y H Q ∨ r' x y H Q
def rSlOr (r r' : V → Option Int → Option Int → Hp → VK → Prop) : V → Option Int → Option Int → Hp → VK → Prop := fun x lo hi H Q => r x lo hi H Q ∨ r' x lo hi H Q
def iOr (w w' : TI) : TI := fun σ H R => w σ H R ∨ w' σ H R
def rAddS : R2 := fun x y H Q => ∃ i j : Str, x = .str i ∧ y = .str j ∧ i.length + j.length ≤ sizeLine ∧ Q (.str (i ++ j)) H
def rAddU (K : PySem.W.Frag) : R2 := rOr (rI0 fun i j => .int (i + j)) (rOr (rCatA K) (rOr rCat rAddS))
def rMulU (K : PySem.W.Frag) : R2 := rOr (rI CMul fun i j => .int (i * j)) (rOr (rRepA K) rRep)
def rEqU (K : PySem.W.Frag) : R2 := rOr (rEqD K) rEq
def rNeU (K : PySem.W.Frag) : R2 := rOr (rNeD K) rNe
def rSlU (K : PySem.W.Frag) : V → Option Int → Option Int → Hp → VK → Prop := rSlOr (rSlL K) (rSlA K)
def iSeqU (K : PySem.W.Frag) (t : TE) : TI := iOr (iList K t) (iTup K t)
section
variable {X : Cx}
theorem op_or {f : Value → Value → Sem Value} {r r' : R2} (h : OpR X f r) (h' : OpR X f r') : OpR X f (rOr r r') := fun pins s σ H x y v u Q I rx ry q => by
  rcases q with q | q
  · exact h pins s σ H x y v u Q I rx ry q
  · exact h' pins s σ H x y v u Q I rx ry q
theorem op_addU : OpR X (binaryOp .Add) (rAddU X.K) := op_or op_add (op_or op_catA (op_or op_cat op_add_str))
theorem op_mulU : OpR X (binaryOp .Mult) (rMulU X.K) := op_or op_mul (op_or op_repA op_rep)
theorem op_eqU (hu : X.A.units + 64 < cLine) : OpR X (compareOp .Eq) (rEqU X.K) := op_or (op_eqD hu) op_eq
theorem op_neU (hu : X.A.units + 64 < cLine) : OpR X (compareOp .NotEq) (rNeU X.K) := op_or (op_neD hu) op_ne
theorem sl_seqU : SlR X (rSlU X.K) := SlR.or sl_list sl_tupA
theorem pi_or {tg l : Expr} {w w' : TI} (h : PI X tg l w) (h' : PI X tg l w') : PI X tg l (iOr w w') := ⟨fun pins s σ H R I q => by
  rcases q with q | q
  · exact h.run pins s σ H R I q
  · exact h'.run pins s σ H R I q⟩
theorem pi_seqU {tg l : Expr} {t : TE} (h : PE X l t) : PI X tg l (iSeqU X.K t) := pi_or (pi_list h) (pi_tup h)
end

section
variable {R : Hp → Hp → Prop} {B : Bn} [rk : Rok B R] {K : PySem.W.Frag} {δ : List (Option PV)} {H H' : Hp} {ta tb tc te : TE} {p q w : PV} {tt tu : TT}
theorem Ev.at_ (h : Ev R B te δ H p) (r : R H H') : Ev R B te δ H' p := fun σ H2 r2 => h σ H2 (rk.tr r r2)
theorem EvT.at_ {b : Bool} (h : EvT R B tt δ H b) (r : R H H') : EvT R B tt δ H' b := fun σ H2 r2 => h σ H2 (rk.tr r r2)
theorem Ev.conv (h : Ev R B te δ H p) (c : ∀ v H1, R H H1 → p v H1 → q v H1) : Ev R B te δ H q := fun σ H1 r S Q k => h σ H1 r S Q fun v H2 r2 pv => k v H2 r2 (c v H2 (rk.tr r r2) pv)
theorem Ev.is (h : Ev R B te δ H p) (e : p = q) : Ev R B te δ H q := e ▸ h
theorem ev_var {i : Nat} (h : δ[i]? = some (some p)) : Ev R B (tVar i) δ H p := fun σ H1 r S Q k => let ⟨v, e, pv⟩ := S.get h; ⟨v, e, k v H1 (rk.rf H1) pv⟩
theorem ev_c {v : V} : Ev R B (tC v) δ H (isP v) := fun σ H1 r S Q k => k v H1 (rk.rf H1) rfl
theorem ev_int {i : Int} : Ev R B (tC (.int i)) δ H (im K B (.int i)) := ev_c
theorem ev_str {x : Str} : Ev R B (tC (.str x)) δ H (im K B (.str x)) := ev_c
theorem ev_non : Ev R B (tC .non) δ H (im K B .none) := ev_c
theorem ev_op {r : R2} [Stb B p] (ha : Ev R B ta δ H p) (hb : Ev R B tb δ H q) (hr : ∀ x y H1, R H H1 → BOk B H1 → p x H1 → q y H1 → RV r x y H1 w) : Ev R B (tOp r ta tb) δ H w :=
  fun σ H1 r1 S Q k => ha σ H1 r1 S _ fun x H2 r2 px => hb σ H2 (rk.tr r1 r2) (S.mono (rk.rb r2)) _ fun y H3 r3 qy =>
    hr x y H3 (rk.tr (rk.tr r1 r2) r3) (S.ok.mono ((rk.rb r2).trans (rk.rb r3))) (Stb.st (rk.rb r3) px) qy Q fun v H4 e4 wv => k v H4 (rk.tr (rk.tr r2 r3) (rk.ex e4)) wv
theorem atI_im {ds : List PyData} {vs : List V} {i : Int} {d : PyData} (h : imAll K B ds vs H) (e : atI ds i = some d) : ∃ v, atI vs i = some v ∧ im K B d v H := by
  unfold atI at e ⊢
  rw [imAll_len h]
  cases q : ixN ds.length i with
  | none => rw [q] at e; cases e
  | some j =>
    rw [q] at e
    obtain ⟨v, e1, e2⟩ := imAll_get h (show ds[j]? = some d from e)
    exact ⟨v, e1, e2⟩
theorem ea_nil : EvA R B tNil δ H [] := fun σ H1 r S Q k => k [] H1 (rk.rf H1) rfl
theorem ea_cons {tr : TA} {ps : List PV} [Stb B p] (h : Ev R B ta δ H p) (hr : EvA R B tr δ H ps) : EvA R B (tCons ta tr) δ H (p :: ps) := fun σ H1 r S Q k =>
  h σ H1 r S _ fun v H2 r2 pv => hr σ H2 (rk.tr r r2) (S.mono (rk.rb r2)) _ fun vs H3 r3 pr => k (v :: vs) H3 (rk.tr r2 r3) ⟨v, vs, rfl, Stb.st (rk.rb r3) pv, pr⟩
theorem ev_cb {r : List V → Hp → VK → Prop} {ta : TA} {ps : List PV} (h : EvA R B ta δ H ps) (hr : ∀ vs H1, R H H1 → BOk B H1 → pAll ps vs H1 → RC R r vs H1 w) : Ev R B (tCB r ta) δ H w := fun σ H1 r1 S Q k =>
  h σ H1 r1 S _ fun vs H2 r2 pr => hr vs H2 (rk.tr r1 r2) (S.ok.mono (rk.rb r2)) pr Q fun v H3 r3 wv => k v H3 (rk.tr r2 r3) wv
theorem imAll_of_pAll : ∀ {ds : List PyData} {vs : List V}, pAll (ds.map (im K B)) vs H → imAll K B ds vs H
  | [], _, h => h
  | d :: ds, _, ⟨v, r, e, h1, h2⟩ => ⟨v, r, e, h1, imAll_of_pAll h2⟩
theorem not_ban {p : Addr} (o : BOk B H) (h : H p = none) : ¬ B p := fun b => o p b h
theorem ev_tup {ta : TA} {ds : List PyData} (h : EvA R B ta δ H (ds.map (im K B))) (hl : ds.length ≤ sizeLine) : Ev R B (tTup ta) δ H (im K B (.tuple ds)) := fun σ H1 r1 S Q k =>
  h σ H1 r1 S _ fun vs H2 r2 pr => by
    have hv := imAll_of_pAll pr
    refine ⟨by rw [imAll_len hv]; exact hl, fun a ha => k _ _ (rk.tr r2 (rk.ex (Ex.new ha))) ⟨a, vs, rfl, sqT_of upd_same, imAll_st (RB.of_ex (Ex.new ha)) _ _ hv⟩⟩
def rLenQ (K : PySem.W.Frag) : List V → Hp → VK → Prop := fun xs H Q => ∃ p ys, xs = [.ref p] ∧ (SqL K H p ys ∨ SqT K H p ys) ∧ Q (.int ys.length) H
def rTupQ (K : PySem.W.Frag) : List V → Hp → VK → Prop := fun xs H Q => ∃ p ys, xs = [.ref p] ∧ ((SqL K H p ys ∧ ∀ l, H l = none → Q (.ref l) (upd H l (.tup ys))) ∨ (SqT K H p ys ∧ Q (.ref p) H))
def rListQ (K : PySem.W.Frag) : List V → Hp → VK → Prop := fun xs H Q => ∃ p ys, xs = [.ref p] ∧ (SqL K H p ys ∨ SqT K H p ys) ∧ ∀ l, H l = none → Q (.ref l) (upd H l (.lst ys))
theorem imAll_rep {ds : List PyData} {vs : List V} (h : imAll K B ds vs H) : ∀ n : Nat, imAll K B (List.replicate n ds).flatten (List.replicate n vs).flatten H
  | 0 => rfl
  | n + 1 => by
    rw [List.replicate_succ, List.replicate_succ, List.flatten_cons, List.flatten_cons]
    exact imAll_append h (imAll_rep h n)
theorem et_test {b : Bool} (h : Ev R B te δ H (im K B (.bool b))) : EvT R B (tTest te) δ H b := fun σ H1 r S Q k => h σ H1 r S _ fun v H2 r2 e => ⟨b, e, k H2 r2⟩
theorem et_B {b : Bool} (h : Ev R B te δ H (im K B (.bool b))) : EvT R B (tB te) δ H b := fun σ H1 r S Q k => h σ H1 r S _ fun v H2 r2 e => ⟨b, e, k H2 r2⟩
theorem et_not {b : Bool} (h : EvT R B tt δ H b) : EvT R B (tNot tt) δ H (!b) := fun σ H1 r S Q k => h σ H1 r S _ fun H2 r2 => k H2 r2
theorem et_and {a b : Bool} (h1 : EvT R B tt δ H a) (h2 : a = true → EvT R B tu δ H b) : EvT R B (tAnd tt tu) δ H (a && b) := fun σ H1 r S Q k => h1 σ H1 r S _ fun H2 r2 => by
  cases a with
  | true => exact h2 rfl σ H2 (rk.tr r r2) (S.mono (rk.rb r2)) Q fun H3 r3 => k H3 (rk.tr r2 r3)
  | false => exact k H2 r2
theorem et_or {a b : Bool} (h1 : EvT R B tt δ H a) (h2 : a = false → EvT R B tu δ H b) : EvT R B (tOr tt tu) δ H (a || b) := fun σ H1 r S Q k => h1 σ H1 r S _ fun H2 r2 => by
  cases a with
  | true => exact k H2 r2
  | false => exact h2 rfl σ H2 (rk.tr r r2) (S.mono (rk.rb r2)) Q fun H3 r3 => k H3 (rk.tr r2 r3)
theorem EvT.is {a b : Bool} (h : EvT R B tt δ H a) (e : a = b) : EvT R B tt δ H b := e ▸ h
theorem ev_and {a b : Bool} (h1 : Ev R B ta δ H (im K B (.bool a))) (h2 : a = true → Ev R B tb δ H (im K B (.bool b))) : Ev R B (tAndV ta tb) δ H (im K B (.bool (a && b))) := fun σ H1 r S Q k => h1 σ H1 r S _ fun v H2 r2 e => ⟨a, e, by
  cases a with
  | true => exact h2 rfl σ H2 (rk.tr r r2) (S.mono (rk.rb r2)) Q fun v H3 r3 e => k v H3 (rk.tr r2 r3) e
  | false => exact k _ H2 r2 rfl⟩
theorem ev_or {a b : Bool} (h1 : Ev R B ta δ H (im K B (.bool a))) (h2 : a = false → Ev R B tb δ H (im K B (.bool b))) : Ev R B (tOrV ta tb) δ H (im K B (.bool (a || b))) := fun σ H1 r S Q k => h1 σ H1 r S _ fun v H2 r2 e => ⟨a, e, by
  cases a with
  | true => exact k _ H2 r2 rfl
  | false => exact h2 rfl σ H2 (rk.tr r r2) (S.mono (rk.rb r2)) Q fun v H3 r3 e => k v H3 (rk.tr r2 r3) e⟩
theorem ev_not {a : Bool} (h1 : Ev R B ta δ H (im K B (.bool a))) : Ev R B (tNotV ta) δ H (im K B (.bool (!a))) := fun σ H1 r S Q k => h1 σ H1 r S _ fun v H2 r2 e => ⟨a, e, k _ H2 r2 rfl⟩
theorem ev_if {b : Bool} (h : EvT R B tt δ H b) (h1 : b = true → Ev R B ta δ H p) (h2 : b = false → Ev R B tb δ H p) : Ev R B (tIf tt ta tb) δ H p := fun σ H1 r S Q k => h σ H1 r S _ fun H2 r2 => by
  cases b with
  | true => exact h1 rfl σ H2 (rk.tr r r2) (S.mono (rk.rb r2)) Q fun v H3 r3 pv => k v H3 (rk.tr r2 r3) pv
  | false => exact h2 rfl σ H2 (rk.tr r r2) (S.mono (rk.rb r2)) Q fun v H3 r3 pv => k v H3 (rk.tr r2 r3) pv
end

section
variable {R : Hp → Hp → Prop} {B : Bn} [rk : Rok B R] {K : PySem.W.Frag} {δ : List (Option PV)} {H H' : Hp} {ta tb tc te : TE} {p q w : PV} {tt tu : TT} {D : Ends} {σ : L2.St} {t u : TS} {i j l : Nat}
end
end EL

set_option Elab.async false
set_option linter.all false
set_option maxRecDepth 100000
set_option maxHeartbeats 4000000
set_option autoImplicit false
namespace EL
open PySem PySem.Spec PyProof.Rows L2
def pureSp {α : Type} (K : PySem.W.Frag) (args : α → List PyData) (pre : α → Prop) (res : α → PyData) : Sp := fun vs H Q _ =>
  ∃ (B : Bn) (a : α), BOk B H ∧ imAll K B (args a) vs H ∧ pre a ∧ ∀ v H', Ex H H' → im K B (res a) v H' → Q v H'
theorem pureSp.len {α : Type} {K : PySem.W.Frag} {args : α → List PyData} {pre : α → Prop} {res : α → PyData} {n : Nat} (h : ∀ a, (args a).length = n) {vs : List V} {H : Hp} {Q : VK} {E : XK} (q : pureSp K args pre res vs H Q E) : vs.length = n := by
  obtain ⟨B, a, _, h1, _⟩ := q
  rw [imAll_len h1]; exact h a
theorem SD.start {K : PySem.W.Frag} {B : Bn} {H : Hp} {N : List Str} {ds : List PyData} {vs : List V} (o : BOk B H) (h : imAll K B ds vs H) :
    SD B H (start N vs) (ds.map (fun d => some (im K B d)) ++ List.replicate (N.length - ds.length) none) := by
  have hl := imAll_len h
  refine ⟨o, ?_, fun i p e => ?_⟩
  · unfold L2.start
    rw [List.length_append, List.length_append, List.length_map, List.length_map, List.length_replicate, List.length_replicate, hl]
  · by_cases hi : i < ds.length
    · rw [List.getElem?_append_left (by rw [List.length_map]; exact hi), List.getElem?_map, List.getElem?_eq_getElem hi] at e
      have e2 : im K B ds[i] = p := by simpa using e
      obtain ⟨v, h1, h2⟩ := imAll_get h (List.getElem?_eq_getElem hi)
      subst e2
      refine ⟨inferInstance, v, ?_, h2⟩
      unfold L2.start
      rw [List.getElem?_append_left (by rw [List.length_map, hl]; exact hi), List.getElem?_map, h1]
      rfl
    · rw [List.getElem?_append_right (by rw [List.length_map]; omega), List.getElem?_replicate] at e
      split at e <;> simp at e
section
variable {R : Hp → Hp → Prop} {B : Bn} [rk : Rok B R] {K : PySem.W.Frag} {δ : List (Option PV)} {H H' : Hp}
theorem ev_call {α : Type} {args : α → List PyData} {pre : α → Prop} {res : α → PyData} {E : XK} {ta : TA} (a : α) (h : EvA R B ta δ H ((args a).map (im K B))) (hp : pre a) :
    Ev R B (tCall (pureSp K args pre res) [] E ta) δ H (im K B (res a)) := fun σ H1 r S Q k =>
  h σ H1 r S _ fun vs H2 r2 pr => by
    show pureSp K args pre res (vs ++ []) H2 Q E
    rw [List.append_nil]
    exact ⟨B, a, S.ok.mono (rk.rb r2), imAll_of_pAll pr, hp, fun v H3 e3 hv => k v H3 (rk.tr r2 (rk.ex e3)) hv⟩
end
abbrev tI (ns : List Int) : PyData := .tuple (ns.map .int)
abbrev wd (b r : List Int) : PyData := .tuple [tI b, tI r]
def letterAt (b r : List Int) (k : Int) : Int := if k < b.length then b.getD k.toNat 0 else r.getD ((k - b.length) % r.length).toNat 0
end EL

set_option Elab.async false
set_option linter.all false
set_option maxRecDepth 100000
set_option maxHeartbeats 4000000
set_option autoImplicit false
namespace EL
open PySem PySem.Spec PyProof.Rows L2
structure TK (H H' : Hp) : Prop where
  tup : ∀ a xs, H a = some (.tup xs) → H' a = some (.tup xs)
  frz : ∀ a o u, H a = some (.frz o u) → H' a = some (.frz o u)
theorem RB.tk {B : Bn} {H H' : Hp} (r : RB B H H') : TK H H' := ⟨r.tup, r.frz⟩
theorem TK.sqT {K : PySem.W.Frag} {H H' : Hp} {a : Addr} {xs : List V} (r : TK H H') (h : SqT K H a xs) : SqT K H' a xs := by
  rcases h with (h | ⟨o, h⟩) | h
  · exact .inl (.inl (r.tup _ _ h))
  · exact .inl (.inr ⟨o, r.frz _ _ _ h⟩)
  · exact .inr h
theorem TK.upd {H : Hp} {a : Addr} {xs : List V} {o : HO} (h : H a = some (.lst xs)) : TK H (upd H a o) :=
  ⟨fun b ys e => by rw [upd_ne (ne_of e h (by intro z; cases z))]; exact e, fun b ob u e => by rw [upd_ne (ne_of e h (by intro z; cases z))]; exact e⟩
section
variable {K : PySem.W.Frag} {B B' : Bn} {H H' : Hp}
end
class Rmk (R : Hp → Hp → Prop) : Prop where
  new : ∀ {H H' p o}, R H H' → H p = none → R H (upd H' p o)
instance : Rmk Ex := ⟨fun r h => r.mut h⟩
instance {B : Bn} : Rmk (RB B) := ⟨fun {H H' p o} r h => ⟨fun a u n e => by rw [upd_ne (ne_of_none e h)]; exact r.keep a u n e, fun a u e => by rw [upd_ne (ne_of_none e h)]; exact r.tup a u e,
  fun a ob u e => by rw [upd_ne (ne_of_none e h)]; exact r.frz a ob u e, fun a b n => by
    by_cases q : a = p
    · subst q; exact absurd h n
    · rw [upd_ne q]; exact r.ban a b n⟩⟩

def cut {α : Type} (xs : List α) (lo hi : Option Int) : List α := (xs.drop (HT.sIx xs.length 0 lo)).take (HT.sIx xs.length xs.length hi - HT.sIx xs.length 0 lo)
theorem cutV_im {K : PySem.W.Frag} {B : Bn} {H : Hp} {ds : List PyData} {vs : List V} {lo hi : Option Int} (h : imAll K B ds vs H) : imAll K B (cut ds lo hi) (cutV vs lo hi) H := by
  unfold cut cutV
  rw [imAll_len h]
  exact imAll_take _ (imAll_drop _ h)
section
variable {R : Hp → Hp → Prop} {B : Bn} [rk : Rok B R] {K : PySem.W.Frag} {δ : List (Option PV)} {H : Hp} {te : TE} {tl th : TO} {lo hi : Option Int}
theorem eo_none : EvO R B tNoPart δ H none := fun σ H1 r S Q k => k H1 (rk.rf H1)
theorem eo_some {i : Int} (h : Ev R B te δ H (im K B (.int i))) : EvO R B (tPart te) δ H (some i) := fun σ H1 r S Q k => h σ H1 r S _ fun v H2 r2 e => ⟨i, e, k H2 r2⟩
end
theorem cut_from {α : Type} {xs : List α} {n : Nat} : cut xs (some (n : Int)) none = xs.drop n := by
  unfold cut
  rw [HT.sIx_none, HT.sIx_nat]
  rcases Nat.le_total n xs.length with h | h
  · rw [Nat.min_eq_left h, List.take_of_length_le (by rw [List.length_drop]; omega)]
  · rw [Nat.min_eq_right h, Nat.sub_self, List.take_zero, List.drop_of_length_le h]
section
variable (R : Hp → Hp → Prop) (B : Bn)
def Src (wi : TI) (δ : List (Option PV)) (H : Hp) (n : Nat) (Y : Nat → PV) : Prop := ∀ σ H1, R H H1 → SD B H1 σ δ → ∀ Q : It → Hp → Prop,
  (∀ (J : It) (G : Hp → Prop) (H2 : Hp), R H1 H2 → Walk J n G (fun i Ha x Hb => Ex Ha Hb ∧ Y i x Hb) → (∀ H3, RB B H2 H3 → G H3) → Q J H2) → wi σ H1 Q
end
section
variable {R : Hp → Hp → Prop} {B : Bn} [rk : Rok B R] {K : PySem.W.Frag} {δ : List (Option PV)} {H : Hp} {ta tb : TE}
theorem getD_im {ds : List PyData} {vs : List V} {i : Nat} {v : V} (h : imAll K B ds vs H) (e : vs[i]? = some v) : im K B (ds.getD i .none) v H := by
  obtain ⟨d, e1, e2⟩ := imAll_getV h e
  rw [List.getD_eq_getElem?_getD, e1]
  exact e2
theorem src_range1 {n : Int} (h : Ev R B ta δ H (im K B (.int n))) (h1 : -(2 ^ 62) ≤ n) (h2 : n < 2 ^ 62) : Src R B (iRng1 (tCons ta tNil)) δ H n.toNat (fun i => im K B (.int i)) := fun σ H1 r S Q k =>
  h σ H1 r S _ fun v H2 r2 e => ⟨n, by rw [show v = _ from e], h1, h2, k _ (fun _ => True) H2 r2 (walk_range.mono (fun _ z => z) fun i Ha x Hb _ _ y => ⟨by rw [y.1]; exact Ex.refl _, by rw [y.2]; show V.int (0 + (i : Int)) = V.int _; rw [Int.zero_add]⟩) fun _ _ => trivial⟩
theorem src_range2 {a b : Int} (ha : Ev R B ta δ H (im K B (.int a))) (hb : Ev R B tb δ H (im K B (.int b))) (hc : -(2 ^ 62) ≤ a ∧ a < 2 ^ 62 ∧ -(2 ^ 62) ≤ b ∧ b < 2 ^ 62) : Src R B (iRng2 (tCons ta (tCons tb tNil))) δ H (b - a).toNat (fun i => im K B (.int (a + i))) := fun σ H1 r S Q k =>
  ha σ H1 r S _ fun v H2 r2 e => hb σ H2 (rk.tr r r2) (S.mono (rk.rb r2)) _ fun u H3 r3 e' => ⟨a, b, by rw [show v = _ from e, show u = _ from e'], hc, k _ (fun _ => True) H3 (rk.tr r2 r3) (walk_range.mono (fun _ z => z) fun i Ha x Hb _ _ y => ⟨by rw [y.1]; exact Ex.refl _, by rw [y.2]; rfl⟩) fun _ _ => trivial⟩
end
section
variable {R : Hp → Hp → Prop} {B : Bn} [rk : Rok B R] [rm : Rmk R] {K : PySem.W.Frag} {δ : List (Option PV)} {H : Hp}
def newL (K : PySem.W.Frag) (B : Bn) (H : Hp) (ds : List PyData) : PV := fun v Hc => ∃ a vs, v = .ref a ∧ H a = none ∧ ¬ B a ∧ Hc a = some (.lst vs) ∧ imAll K B ds vs Hc
instance {H : Hp} {ds : List PyData} : Stb B (newL K B H ds) := ⟨fun r ⟨a, vs, e, n, nb, h, q⟩ => ⟨a, vs, e, n, nb, r.keep _ _ nb h, imAll_st r _ _ q⟩⟩
theorem newL.im {H0 Hc : Hp} {ds : List PyData} {v : V} (h : newL K B H0 ds v Hc) : im K B (.list ds) v Hc := by
  obtain ⟨a, vs, e, n, nb, h, q⟩ := h
  exact ⟨a, vs, e, nb, sqL_of h, q⟩
theorem RB.fresh {H H' : Hp} {a : Addr} (r : RB B H H') (n : H' a = none) : H a = none := by
  cases e : H a with
  | none => rfl
  | some o =>
    rcases Classical.em (B a) with b | b
    · exact absurd n (r.ban a b (by rw [e]; exact fun z => nomatch z))
    · rw [r.keep a o b e] at n; cases n
theorem ev_lstN {ta : TA} {ds : List PyData} (h : EvA R B ta δ H (ds.map (EL.im K B))) (hl : ds.length ≤ sizeLine) : Ev R B (tLst ta) δ H (newL K B H ds) := fun σ H1 r1 S Q k =>
  h σ H1 r1 S _ fun vs H2 r2 pr => by
    have hv := imAll_of_pAll pr
    refine ⟨by rw [imAll_len hv]; exact hl, fun a ha => k _ _ (rk.tr r2 (rk.ex (Ex.new ha))) ⟨a, vs, rfl, RB.fresh (rk.rb (rk.tr r1 r2)) ha, not_ban (S.ok.mono (rk.rb r2)) ha, upd_same, imAll_st (RB.of_ex (Ex.new ha)) _ _ hv⟩⟩
end
end EL

set_option Elab.async false
set_option linter.all false
set_option maxRecDepth 100000
set_option maxHeartbeats 4000000
set_option autoImplicit false
namespace EL
open PySem PySem.Spec PyProof.Rows L2
abbrev big61 : Int := 2305843009213693951
structure HandOk (h l : Addr) (H : Hp) : Prop where
  ne : h ≠ l
  top : ∃ seed : Int, H h = some (.lst [.ref l, .int seed]) ∧ 0 ≤ seed ∧ seed < big61
  cells : ∃ cs : List Int, H l = some (.lst (cs.map .int)) ∧ (∀ c ∈ cs, 0 ≤ c) ∧ cs.length ≤ 63
def hB (h l : Addr) : Bn := fun a => a = h ∨ a = l
structure Rh (h l : Addr) (H H' : Hp) : Prop where
  rb : RB (hB h l) H H'
  ok : HandOk h l H → HandOk h l H'
class Has (B : Bn) (h l : Addr) : Prop where
  h1 : B h
  h2 : B l
instance {h l : Addr} : Has (hB h l) h l := ⟨.inl rfl, .inr rfl⟩
theorem HandOk.ex {h l : Addr} {H H' : Hp} (e : Ex H H') (o : HandOk h l H) : HandOk h l H' := by
  obtain ⟨n, ⟨s, e1, b1⟩, ⟨cs, e2, b2⟩⟩ := o
  exact ⟨n, ⟨s, e _ _ e1, b1⟩, ⟨cs, e _ _ e2, b2⟩⟩
instance {B : Bn} {h l : Addr} [hs : Has B h l] : Rok B (Rh h l) where
  rf := fun H => ⟨RB.refl H, id⟩
  tr := fun a b => ⟨a.rb.trans b.rb, fun o => b.ok (a.ok o)⟩
  ex := fun e => ⟨RB.of_ex e, fun o => o.ex e⟩
  rb := fun r => r.rb.sub fun a z => by
    rcases z with rfl | rfl
    · exact hs.h1
    · exact hs.h2
theorem HandOk.upd {h l p : Addr} {H : Hp} {o : HO} (k : HandOk h l H) (n1 : h ≠ p) (n2 : l ≠ p) : HandOk h l (upd H p o) := by
  obtain ⟨n, ⟨s, e1, b1⟩, ⟨cs, e2, b2⟩⟩ := k
  exact ⟨n, ⟨s, by rw [upd_ne n1]; exact e1, b1⟩, ⟨cs, by rw [upd_ne n2]; exact e2, b2⟩⟩
theorem HandOk.at1 {h l : Addr} {H : Hp} (k : HandOk h l H) : H h ≠ none := by
  obtain ⟨n, ⟨s, e1, b1⟩, _⟩ := k
  rw [e1]; exact fun z => nomatch z
theorem HandOk.at2 {h l : Addr} {H : Hp} (k : HandOk h l H) : H l ≠ none := by
  obtain ⟨n, _, ⟨cs, e2, b2⟩⟩ := k
  rw [e2]; exact fun z => nomatch z
instance {h l : Addr} : Rmk (Rh h l) := ⟨fun {H H' p o} r n => ⟨Rmk.new r.rb n, fun k => (r.ok k).upd (fun e => k.at1 (e ▸ n)) fun e => k.at2 (e ▸ n)⟩⟩
def intP (C : Int → Prop) : PV := fun v _ => ∃ i, C i ∧ v = .int i
instance {B : Bn} {C : Int → Prop} : Stb B (intP C) := ⟨fun _ h => h⟩
section
variable {B : Bn} {h l : Addr} [hs : Has B h l] {K : PySem.W.Frag} {δ : List (Option PV)} {H : Hp} {ta tb : TE} {E : XK}
end
section
variable {R : Hp → Hp → Prop} {B : Bn} [rk : Rok B R] {K : PySem.W.Frag} {δ : List (Option PV)} {H : Hp} {ta tb : TE} {C D : Int → Prop}
end
end EL

set_option Elab.async false
set_option linter.all false
set_option maxRecDepth 100000
set_option maxHeartbeats 4000000
set_option autoImplicit false
namespace EL
open PySem PySem.Spec PyProof.Rows L2
section
variable {R : Hp → Hp → Prop} {B : Bn} [rk : Rok B R] {K : PySem.W.Frag} {δ : List (Option PV)} {H : Hp} {ta tb to ti te : TE} {D : Ends} {σ : L2.St} {p : PV}
theorem Ev.lst {a : Addr} {vs : List V} {ds : List PyData} (ha : Ev Ex (fun _ => False) ta δ H (isP (.ref a))) (hl : H a = some (.lst vs)) (hv : imAll K (fun _ => False) ds vs H) : Ev Ex (fun _ => False) ta δ H (im K (fun _ => False) (.list ds)) :=
  ha.conv fun v H1 r1 e => ⟨a, vs, e, fun z => z, sqL_of (r1 _ _ hl), imAll_st (RB.of_ex r1) _ _ hv⟩
end
section
variable {B : Bn} {K : PySem.W.Frag} {δ : List (Option PV)} {H : Hp} {ta : TE}
end
theorem canLayAll_ints : ∀ ns : List Int, PyData.canLayAll0 (ns.map .int) = true
  | [] => by rfl
  | n :: ns => by
    have := canLayAll_ints ns
    simp only [List.map_cons, PyData.canLayAll0, PyData.canLay0, this, Bool.and_self]
end EL

set_option Elab.async false
set_option linter.all false
set_option maxRecDepth 100000
set_option maxHeartbeats 4000000
set_option autoImplicit false
namespace EL
open PySem PySem.Spec PyProof.Rows L2
structure FnG (P : Program) (w : World) (K : PySem.W.Frag) (mg : Str → Option Value) (bs : Heap) (CX : CXT) (k : Nat) (f : Addr) (fd : FuncData) (ps : List Str) (sp : Sp) : Prop where
  len : ∀ vs H Q E, sp vs H Q E → vs.length = ps.length
  run : ∀ (A : Around) (o : List Env) (s : Shared) (H : Hp) (ar : Args) (us : List Value) (vs : List V) (Q : VK) (E : XK),
    A.guards = some [] → Room k A → Env0 P w K mg bs A o s H → BindsTo s fd ar (ps.zip us) → Vals vs us → sp vs H Q E →
    codeAny (model P w) A (.call (.ref f) ar) (CR CX o P w H s Q E) s
theorem FnG.of {P : Program} {w : World} {K : PySem.W.Frag} {mg : Str → Option Value} {bs : Heap} {CX : CXT} {k : Nat} {f : Addr} {fd : FuncData} {ps : List Str} {sp : Sp}
    (F : FnOk P w K mg bs CX k f fd ps sp) : FnG P w K mg bs CX k f fd ps sp := ⟨F.len, fun A o s H ar us vs Q E _ => F.run A o s H ar us vs Q E⟩
section
variable {P : Program} {w : World} {K : PySem.W.Frag} {mg : Str → Option Value} {bs : Heap} {CX : CXT} {x qu : Str} {pa : Arguments} {bo : List Stmt} {sc : Scope} {dv : List V} {kw : List (Str × V)} {f : Addr} {fd : FuncData}
theorem okG {N ps : List Str} {k : Nat} {sp : Sp} (F : FunD K x qu pa bo sc dv kw f fd) (S : FnScope N ps sc)
    (hlen : ∀ vs H Q E, sp vs H Q E → vs.length = ps.length)
    (hb : ∀ (cv : Value) (A : Around) (o : List Env) (s : Shared) (H : Hp) (vs : List V) (Q : VK) (E : XK), A.guards = some [] →
      Room k (A.deeper (envOfC qu sc s.heap.objs.size f cv)) → sp vs H Q E →
      ∃ t, PSs (cxOf CX P w K mg bs N qu sc f cv A o s H E) bo t ∧ t ⟨fun _ H' => Q .non H', Q, fun _ _ => False, fun _ _ => False⟩ (start N vs) H) :
    FnG P w K mg bs CX (k + 1) f fd ps sp := by
  obtain ⟨oc, od, dV, kV, doc, pm, an, cv, ct, osl, rfl, hlk, hcd, _, _⟩ := F.ex
  refine ⟨hlen, fun A o s H ar us vs Q E gd rm en bd rv hsp => ?_⟩
  have hKin : K.In s.heap := en.mod.kin.keeps fun c z q => (en.bs c z q).1
  have hLim : s.heap.NoLimit := en.mod.nolimit.keeps fun c z q => (en.bs c z q).1
  have hkd : ∀ y ∈ ps.zip us, sc.names.lookup y.1 = some .local ∨
      (sc.names.lookup y.1 = some .cell ∧ ((cellsFrom (s.heap.objs.size + 1) sc.names []).lookup y.1).isSome = true) := by
    rintro ⟨nm, vl⟩ hy
    rcases S.par nm (List.of_mem_zip hy).1 with z | z
    · left; exact z
    · right; exact ⟨z, PySem.W.cellsFrom_some _ _ _ (.inl z)⟩
  refine codeAny_call_function rm.depth (hKin _ _ hlk) rfl S.co S.gen rfl (PySem.W.codeRec_of hKin hcd) (bd _ _ _ _ ?_)
  refine wpAny_newFunctionEnv_cells S.kind hkd fun ev hev s2 xx => ?_
  subst hev
  refine ⟨hLim.keeps xx.toInCall.keep, codeAny_func ?_⟩
  obtain ⟨t, ht, hq⟩ := hb cv A o s H vs Q E gd (rm.deeper _) hsp
  have II : Inv (cxOf CX P w K mg bs N qu sc f cv A o s H E) [] (start N vs) H s2 := inv_start S rm.hd en (hlen _ _ _ _ hsp) rv xx
  refine wpAny_mono (ht.run [] s2 (start N vs) H _ II hq) (fun fl s3 hs => ?_) fun e s3 hs => hs
  cases fl with
  | ret u => obtain ⟨v, σ', H', J, r2, z⟩ := hs; exact ⟨v, H', J.os, J.bare, J.base, J.hok, r2, z⟩
  | next => obtain ⟨σ', H', J, z⟩ := hs; exact ⟨.non, H', J.os, J.bare, J.base, J.hok, rfl, z⟩
  | brk => obtain ⟨_, _, _, z⟩ := hs; cases z
  | cont => obtain ⟨_, _, _, z⟩ := hs; cases z
end
section
variable {X : Cx} {CX : CXT} {k : Nat} {f : Addr} {fd : FuncData} {ps : List Str} {sp : Sp} {E : XK} {x : Str} {p pos : Pos} {e : Expr} {es : List Expr} {t : TA}
theorem pe_callG (F : FnG X.prog X.w X.K X.mg X.base CX k f fd ps sp) (gd : X.A.guards = some []) (rm : Room k X.A) (hg : Gl X x) (hm : X.mg x = some (.ref f)) (hk : PySem.W.keepIn X.K (.ref f) = true)
    (bd : Binds X.K fd ps []) (hx : Passes CX X E) (ha : PA X (e :: es) t) (d1 : (x == ("__debug__" : Str)) = false := by decide)
    (d2 : starEach (e :: es) X.env = (false, eval e X.env) :: starEach es X.env := by rfl) (d3 : (backTo pos (starEach es X.env)).any (·.1) = false := by rfl) :
    PE X (.Call (.Name x p) (e :: es) [] pos) (tCall sp [] E t) := by
  refine ⟨fun pins s σ H Q I h => wpAny_Call_Name_kw (ld_glob I hg hm ?_ d1)⟩
  refine PySem.W.callWith_K (h₀ := X.base) I.ok.mod.kin hk (thn (ha.run pos pins s σ H _ I h) ?_) d2 d3
  rintro us s1 ⟨vs, H1, I1, rv, q⟩
  refine ⟨I1.kIn, ?_⟩
  have q : sp (vs ++ []) H1 Q E := q
  rw [List.append_nil] at q
  have hl : (us ++ []).length = ps.length := by rw [List.append_nil, ← rv.length]; exact F.len _ _ _ _ q
  have bb := bd s1 us I1.kIn hl
  rw [List.append_nil] at bb
  refine wpAny_call (codeAny_mono (F.run X.A X.stack s1 H1 ⟨us, []⟩ us vs Q E gd rm I1.env0 bb rv q) fun r s2 hq => ?_)
  match r, hq with
  | .error er, hq => exact hx pins σ H1 s1 er s2 I1 hq
  | .ok (.ret u), hq => exact I1.after hq
def rReprD (K : PySem.W.Frag) : List V → Hp → VK → Prop := fun xs H Q => ∃ v d, xs = [v] ∧ Dp K H v d ∧ d.showable = true ∧ d.hasDict = false ∧ d.depth ≤ 64 ∧ d.shown.length ≤ sizeLine ∧ Q (.str d.shown) H
theorem call_reprD (gd : X.A.guards = some []) (hu : X.A.units + 66 < cLine) : CallR X (.builtin "repr") (rReprD X.K) := by
  intro pins s σ H xs us Q I r h
  obtain ⟨v, d, rfl, hd, sh, nd, dp, sz, q⟩ := h
  obtain ⟨u, rfl, ru⟩ := vals1 r
  obtain ⟨as, rd⟩ := Dp.reads I d v u hd ru
  have fin : ∀ (h' : Heap) (t : Tok) (tk : Nat), (∀ b o, s.heap.get? b = some o → h'.get? b = some o) → EP X pins σ Q (.str d.shown t) { s with heap := h', toks := tk } := fun h' t tk hk => ⟨.str d.shown, H, I.kept hk, ⟨t, rfl⟩, q⟩
  cases hd with
  | lst a b => cases ru; exact repr_of_reads' rd sh (PyData.noDict_hsm nd) gd (by omega) (fun _ _ z => z) fin sz
  | tup a b => cases ru; exact repr_of_reads' rd sh (PyData.noDict_hsm nd) gd (by omega) (fun _ _ z => z) fin sz
  | non => cases ru; rw [PyData.shown_none] at fin; exact PySem.P.repr_of_none (fin s.heap _ _ fun _ _ z => z)
  | bl b => cases ru; rw [PyData.shown_bool] at fin; exact PySem.P.repr_of_bool (by cases b <;> exact fin s.heap _ _ fun _ _ z => z)
  | int i => obtain ⟨t, rfl⟩ := ru; rw [PyData.shown_int] at fin; exact PySem.P.repr_of_int (by simpa [PyData.showable] using sh) (fin s.heap _ _ fun _ _ z => z)
  | str z => obtain ⟨t, rfl⟩ := ru; rw [PyData.shown_str] at fin sz; exact PySem.P.repr_of_str (fin s.heap _ _ fun _ _ z => z) sz
end
section
variable {P : Program} {w : World} {K : PySem.W.Frag} {mg mb : Str → Option Value} {k : Nat} {fa a : Addr} {fd : FuncData} {x : Str} {sp : Sp} {s1 : Shared} {vs : List Value} {ns : List Int}
theorem callG_core (hr : Room k callerA) (F : ∀ bs : Heap, K.In bs → bs.Ns mainGlobals mg → FnG P w K mg bs CX0 k fa fd [x] sp) (hbd : ∀ (s : Shared) (u : Value), BindsTo s fd ⟨[u], []⟩ [(x, u)])
    (KX : K.In s1.heap) (n1 : s1.heap.Ns mainGlobals mg) (n2 : s1.heap.Ns builtinsNs mb) (n3 : ∀ x : Str, x ≠ "__name__" → mb x = bootBuiltins x) (n4 : s1.heap.NoLimit) (n5 : s1.gens = #[])
    (ha : s1.heap.get? a = some { cls := .type "list", data := .seq vs.toArray }) (H : Hp) (hO : Only H) (hok : HOk P w H s1.heap) (hA : ∀ b, H b ≠ none → b = a) (hK : H a ≠ none → K.lookup a = none)
    (hsp : sp [.ref a] H (fun v _ => v = .bl true) fun _ _ _ => False) :
    codeAny (model P w) callerA (.call (.ref fa) ⟨[.ref a], []⟩) (fun r s' => r = .ok (.ret (.bool true)) ∧ OldK s1.heap s'.heap ∧ s'.os = s1.os ∧ AllBare s'.gens) s1 := by
  have noD : ∀ (b : Addr) (o : Obj) (es : Array DictEntry) (ep : Nat), s1.heap.get? b = some o → o.data = .dict es ep → H b = none := by
    intro b o es ep e d
    by_cases z : H b = none
    · exact z
    · rw [hA b z, ha] at e
      cases e
      exact nomatch (show Data.seq vs.toArray _ = Data.dict es ep from d)
  have nsB : ∀ (b : Addr) (m : Str → Option Value), s1.heap.Ns b m → (hidT s1.heap H).Ns b m := by
    rintro b m ⟨o, es, ep, e, d, rest⟩
    exact ⟨o, es, ep, hidT_get e (noD b o es ep e d), d, rest⟩
  have inB : K.In (hidT s1.heap H) := by
    intro b o e
    refine hidT_get (KX b o e) ?_
    by_cases z : H b = none
    · exact z
    · have eb := hA b z
      rw [eb] at z e
      rw [hK z] at e
      cases e
  obtain ⟨mc, l1, l2⟩ := n4
  have md : Mod K mg (hidT s1.heap H) := ⟨inB, nsB _ _ n1, ⟨mb, nsB _ _ n2, n3⟩, ⟨mc, nsB _ _ l1, l2⟩⟩
  have en : Env0 P w K mg (hidT s1.heap H) callerA [] s1 H :=
    ⟨rfl, md, fun b o e => of_hidT e, Nat.le_of_eq (hidT_size _ _), trivial, fun b z => (nomatch (show b ∈ ([] : List Addr) from z)), hok, AllBare.of_eq n5⟩
  refine codeAny_mono ((F _ inB (nsB _ _ n1)).run callerA [] s1 H ⟨[.ref a], []⟩ [.ref a] [.ref a] _ _ rfl hr en (hbd s1 (.ref a)) (.cons rfl .nil) hsp) fun r s' h => ?_
  match r, h with
  | .error e, h => exact h.elim
  | .ok (.ret u), h =>
    obtain ⟨v, H', os, bare, un, hok2, r2, q⟩ := h
    cases (show v = .bl true from q)
    cases (show u = Value.bool true from r2)
    refine ⟨rfl, OldK.of_keep fun b o e => ?_, os, bare⟩
    rcases hO b with z | ⟨ob, xs, z⟩
    · exact un.keep b o e z (fun q => nomatch (show b ∈ ([] : List Addr) from q)) (fun q => nomatch q)
    · obtain ⟨e1, _⟩ := hok b _ z
      obtain ⟨e2, _⟩ := hok2 b _ (un.frzs b ob _ z)
      rw [e] at e1; cases e1
      exact e2
theorem callG (hr : Room k callerA) (F : ∀ bs : Heap, K.In bs → bs.Ns mainGlobals mg → FnG P w K mg bs CX0 k fa fd [x] sp) (hbd : ∀ (s : Shared) (u : Value), BindsTo s fd ⟨[u], []⟩ [(x, u)])
    (KX : K.In s1.heap) (n1 : s1.heap.Ns mainGlobals mg) (n2 : s1.heap.Ns builtinsNs mb) (n3 : ∀ x : Str, x ≠ "__name__" → mb x = bootBuiltins x) (n4 : s1.heap.NoLimit) (n5 : s1.gens = #[])
    (ha : s1.heap.get? a = some { cls := .type "list", data := .seq vs.toArray }) (hi : IntsAre vs ns) (hl : ns.length ≤ sizeLine)
    (hsp : ∀ H : Hp, Only H → SqL K H a (ns.map V.int) → sp [.ref a] H (fun v _ => v = .bl true) fun _ _ _ => False) :
    codeAny (model P w) callerA (.call (.ref fa) ⟨[.ref a], []⟩) (fun r s' => r = .ok (.ret (.bool true)) ∧ OldK s1.heap s'.heap ∧ s'.os = s1.os ∧ AllBare s'.gens) s1 := by
  have rv := vals_ints hi
  have lv := hi.length
  by_cases hk : K.lookup a = none
  · let H : Hp := fun b => if b = a then some (.frz { cls := .type "list", data := .seq vs.toArray } (.lst (ns.map V.int))) else none
    have at1 : H a = some (.frz { cls := .type "list", data := .seq vs.toArray } (.lst (ns.map V.int))) := if_pos rfl
    have at2 : ∀ b, b ≠ a → H b = none := fun b n => if_neg n
    have only : Only H := fun b => by
      by_cases hb : b = a
      · rw [hb]; exact .inr ⟨_, _, at1⟩
      · exact .inl (at2 b hb)
    refine callG_core hr F hbd KX n1 n2 n3 n4 n5 ha H only (fun b u z => ?_) (fun b z => ?_) (fun _ => hk) (hsp H only (.inl (.inr ⟨_, at1⟩)))
    · by_cases hb : b = a
      · rw [hb, at1] at z
        cases z
        rw [hb]
        exact ⟨ha, by rw [List.length_map]; exact hl, vs, _, rv, ha⟩
      · rw [at2 b hb] at z; cases z
    · by_cases hb : b = a
      · exact hb
      · exact absurd (at2 b hb) z
  · obtain ⟨o, ho⟩ := Option.ne_none_iff_exists'.mp hk
    have e := KX a o ho
    rw [ha] at e
    cases e
    have only : Only (fun _ => none) := fun _ => .inl rfl
    exact callG_core hr F hbd KX n1 n2 n3 n4 n5 ha (fun _ => none) only (fun b u z => nomatch (show (none : Option HO) = some u from z)) (fun b z => absurd rfl z) (fun z => absurd rfl z)
      (hsp _ only (.inr ⟨_, vs.toArray, _, ho, rfl, rfl, rfl, by rw [List.size_toArray, lv]; exact hl, by simpa using rv⟩))
end
theorem walkG {l : PySem.W.OpenLaw} {n k : Nat} {q : Program} {ls : List Str} {XP : (Str → Option Value) → Heap → Prop} {YP : World → Heap → Prop} {d : DefRec} {x : Str}
    (hn : l.most = some n) (hn2 : n ≤ sizeLine) (hdf : d.params.defaults = []) (hr : Room k callerA)
    (F : ∀ (w : World) (mg : Str → Option Value) (fa : Addr) (h : Heap), YP w h → h.Ns mainGlobals mg → mg d.name = some (.ref fa) →
      ∃ (K : PySem.W.Frag) (fd : FuncData) (sp : Sp), K.In h ∧ (∀ (s : Shared) (u : Value), BindsTo s fd ⟨[u], []⟩ [(x, u)]) ∧
        (∀ (H : Hp) (a : Addr) (ns : List Int), ns.length ≤ n → Only H → SqL K H a (ns.map V.int) → sp [.ref a] H (fun v _ => v = .bl true) fun _ _ _ => False) ∧
        ∀ bs : Heap, K.In bs → bs.Ns mainGlobals mg → FnG l.prog w K mg bs CX0 k fa fd [x] sp) :
    PySem.W.WalkO q ls XP YP l.row.toRowW d [] (fun f vs => PySem.call f vs) := by
  refine Att.attach_call hn hdf ?_
  intro w s0 s1 mg mb fa o pm cd doc a vs ns G Y ho hd hcd hmg hobj hints hlen hg
  obtain ⟨K, fd, sp, KX, hb, hsp, hF⟩ := F w mg fa _ Y G.T.g hmg
  exact callG hr hF hb KX G.T.g G.T.b G.T.builtins G.T.nolimit hg hobj hints (Nat.le_trans hlen hn2) (fun H hO hS => hsp H a ns hlen hO hS)
end EL

set_option Elab.async false
set_option linter.all false
set_option maxRecDepth 100000
set_option maxHeartbeats 4000000
set_option autoImplicit false
namespace EL
open PySem PySem.Spec PyProof.Rows L2
theorem rm66 {k : Nat} {A : Around} (r : Room k A) : A.units + 66 < cLine := by have := r.un; omega
def Cv (B' : Bn) (H : Hp) : List (Option PV) → List (Option PV) → Prop
  | [], [] => True
  | _ :: a, none :: b => Cv B' H a b
  | some p :: a, some q :: b => (∀ v, p v H → q v H) ∧ Stb B' q ∧ Cv B' H a b
  | _, _ => False
theorem Cv.len {B' : Bn} {H : Hp} : ∀ {a b : List (Option PV)}, Cv B' H a b → a.length = b.length
  | [], [], _ => rfl
  | _ :: a, none :: b, h => by rw [List.length_cons, List.length_cons, Cv.len (a := a) (b := b) (by cases ‹Option PV› <;> exact h)]
  | some _ :: a, some _ :: b, h => by rw [List.length_cons, List.length_cons, Cv.len (a := a) (b := b) h.2.2]
  | none :: _, some _ :: _, h => h.elim
  | [], _ :: _, h => h.elim
  | _ :: _, [], h => by cases ‹Option PV› <;> cases h
theorem Cv.get {B' : Bn} {H : Hp} : ∀ {a b : List (Option PV)} {i : Nat} {q : PV}, Cv B' H a b → b[i]? = some (some q) → Stb B' q ∧ ∃ p, a[i]? = some (some p) ∧ ∀ v, p v H → q v H
  | [], [], _, _, _, e => by simp at e
  | x :: a, none :: b, 0, q, _, e => by simp at e
  | x :: a, none :: b, i + 1, q, h, e => by
    have := Cv.get (a := a) (b := b) (i := i) (q := q) (by cases x <;> exact h) (by simpa using e)
    simpa using this
  | some x :: a, some y :: b, 0, q, h, e => by
    have e1 : y = q := by simpa using e
    subst e1
    exact ⟨h.2.1, x, rfl, h.1⟩
  | some x :: a, some y :: b, i + 1, q, h, e => by
    have := Cv.get (a := a) (b := b) (i := i) (q := q) h.2.2 (by simpa using e)
    simpa using this
  | none :: _, some _ :: _, _, _, h, _ => h.elim
  | [], _ :: _, _, _, h, _ => h.elim
  | _ :: _, [], _, _, h, _ => by cases ‹Option PV› <;> cases h
theorem SD.cv {B B' : Bn} {H : Hp} {σ : L2.St} {δ δ' : List (Option PV)} (s : SD B H σ δ) (o : BOk B' H) (c : Cv B' H δ δ') : SD B' H σ δ' := ⟨o, s.len.trans c.len, fun i q e => by
  obtain ⟨hq, p, e1, h⟩ := c.get e
  obtain ⟨v, e2, pv⟩ := s.get e1
  exact ⟨hq, v, e2, h v pv⟩⟩
abbrev own1 (p : Addr) : Bn := fun a => a = p
theorem own1.ok {p : Addr} {H : Hp} {o : HO} (h : H p = some o) : BOk (own1 p) H := fun a z => by rw [z, h]; exact fun q => nomatch q
theorem RB.own {p : Addr} {H0 H Hc : Hp} (e : Ex H0 H) (n : H0 p = none) (r : RB (own1 p) H Hc) : Ex H0 Hc := fun a o h => r.keep a o (fun z => by rw [show a = p from z, n] at h; cases h) (e a o h)
section
variable {B : Bn} {K : PySem.W.Frag} {δ : List (Option PV)} {H : Hp} {te : TE} {q : PV} {D : Ends} {σ : L2.St}
end
section
variable {R : Hp → Hp → Prop} {B : Bn} [rk : Rok B R] {K : PySem.W.Frag} {δ : List (Option PV)} {H : Hp} {ta tb te : TE} {C : Int → Prop}
end
def tyName : PyData → String
  | .none => "NoneType"
  | .bool _ => "bool"
  | .int _ => "int"
  | .str _ => "str"
  | .list _ => "list"
  | .tuple _ => "tuple"
  | .dict _ => "dict"
theorem im_ty {K : PySem.W.Frag} {B : Bn} {H : Hp} : ∀ {d : PyData} {v : V}, im K B d v H → TyX K H v (.type (tyName d))
  | .none, _, h => by cases (show _ = _ from h); exact .base .non
  | .bool _, _, h => by cases (show _ = _ from h); exact .base (.bl _)
  | .int _, _, h => by cases (show _ = _ from h); exact .base (.int _)
  | .str _, _, h => by cases (show _ = _ from h); exact .base (.str _)
  | .tuple ds, _, ⟨a, vs, e, s, _⟩ => by
    subst e
    rcases s with (s | ⟨o, s⟩) | ⟨o, its, n, h1, h2, _⟩
    · exact .base (.tup s)
    · exact .fTuple s
    · exact .kTuple h1 h2
  | .list ds, _, ⟨a, vs, e, _, s, _⟩ => by
    subst e
    rcases s with (s | ⟨o, s⟩) | ⟨o, its, n, h1, h2, _⟩
    · exact .base (.lst s)
    · exact .base (.frz s)
    · exact .kList h1 h2
  | .dict _, _, h => h.elim
theorem ev_isi {R : Hp → Hp → Prop} {B : Bn} [rk : Rok B R] {K : PySem.W.Frag} {δ : List (Option PV)} {H : Hp} {te : TE} {d : PyData} {T : String} {b : Bool} (he : Ev R B te δ H (im K B d)) (hb : kitB (tyName d) T = some b) :
    Ev R B (tCB (rIsi K) (tCons te (tCons (tC (.ty T)) tNil))) δ H (im K B (.bool b)) :=
  ev_cb (ea_cons he (ea_cons (ev_c (v := .ty T)) ea_nil)) fun vs H1 _ _ ⟨v, r, e, hv, v2, r2, e2, hv2, e3⟩ Q k => by
    subst e e2; cases (show r2 = [] from e3); cases (show v2 = _ from hv2)
    exact ⟨v, .ty T, _, _, b, rfl, .ty T, im_ty hv, kit_ty hb, k _ H1 (rk.rf H1) rfl⟩
end EL

set_option Elab.async false
set_option linter.all false
set_option maxRecDepth 100000
set_option maxHeartbeats 4000000
set_option autoImplicit false
namespace EL
open PySem PySem.Spec PyProof.Rows L2
section
variable {R : Hp → Hp → Prop} {B : Bn} [rk : Rok B R] {K : PySem.W.Frag} {δ : List (Option PV)} {H : Hp} {ta tb te : TE} {D : Ends} {σ : L2.St} {i j : Nat}
end
structure Shows (d : PyData) : Prop where
  s1 : d.showable = true
  s2 : d.hasDict = false
  s3 : d.depth ≤ 64
  s4 : d.shown.length ≤ sizeLine
end EL

set_option Elab.async false
set_option linter.all false
set_option maxRecDepth 100000
set_option maxHeartbeats 4000000
set_option autoImplicit false
namespace EL
open PySem PySem.Spec PyProof.Rows L2
abbrev sq (b r : List Int) : Nat → Int := fun n => letterAt b r (n : Int)
def Per (f : Nat → Int) (n p : Nat) : Prop := ∀ i, n ≤ i → f (i + p) = f i
structure Canon (f : Nat → Int) (a p : Nat) : Prop where
  pos : 1 ≤ p
  per : Per f a p
  minp : ∀ q n, 1 ≤ q → Per f n q → p ≤ q
  mina : ∀ n, Per f n p → a ≤ n
theorem least {P : Nat → Prop} (h : ∃ n, P n) : ∃ n, P n ∧ ∀ m, P m → n ≤ m := by
  obtain ⟨n, hn⟩ := h
  induction n using Nat.strongRecOn with
  | _ n ih =>
    rcases Classical.em (∃ m, m < n ∧ P m) with ⟨m, hm, pm⟩ | z
    · exact ih m hm pm
    · exact ⟨n, hn, fun m pm => Nat.le_of_not_lt fun q => z ⟨m, q, pm⟩⟩
theorem Canon.uniq {f : Nat → Int} {a p a' p' : Nat} (h : Canon f a p) (h' : Canon f a' p') : a = a' ∧ p = p' := by
  have e : p = p' := Nat.le_antisymm (h.minp _ _ h'.pos h'.per) (h'.minp _ _ h.pos h.per)
  subst e
  exact ⟨Nat.le_antisymm (h.mina _ h'.per) (h'.mina _ h.per), rfl⟩
theorem Canon.ex {f : Nat → Int} {n q : Nat} (hq : 1 ≤ q) (h : Per f n q) : ∃ a p, Canon f a p := by
  obtain ⟨p, ⟨p1, m, pm⟩, hp⟩ := least (P := fun p => 1 ≤ p ∧ ∃ m, Per f m p) ⟨q, hq, n, h⟩
  obtain ⟨a, pa, ha⟩ := least (P := fun a => Per f a p) ⟨m, pm⟩
  exact ⟨a, p, p1, pa, fun q n q1 pq => hp q ⟨q1, n, pq⟩, ha⟩
theorem Per.up {f : Nat → Int} {n m p : Nat} (h : Per f n p) (hm : n ≤ m) : Per f m p := fun i hi => h i (by omega)
structure Short (r r0 : List Int) : Prop where
  ne : r0 ≠ []
  le : r0.length ≤ r.length
  same : sq [] r0 = sq [] r
  minp : ∀ q n, 1 ≤ q → Per (sq [] r) n q → r0.length ≤ q
end EL

set_option Elab.async false
set_option linter.all false
set_option maxRecDepth 100000
set_option maxHeartbeats 4000000
set_option autoImplicit false
namespace EL
open PySem PySem.Spec PyProof.Rows L2
def relSp {α β : Type} (K : PySem.W.Frag) (args : α → List PyData) (pre : α → Prop) (C : α → β → Prop) (res : β → PyData) : Sp := fun vs H Q _ =>
  ∃ (B : Bn) (a : α), BOk B H ∧ imAll K B (args a) vs H ∧ pre a ∧ ∀ b v H', C a b → Ex H H' → im K B (res b) v H' → Q v H'
theorem relSp.len {α β : Type} {K : PySem.W.Frag} {args : α → List PyData} {pre : α → Prop} {C : α → β → Prop} {res : β → PyData} {n : Nat} (h : ∀ a, (args a).length = n) {vs : List V} {H : Hp} {Q : VK} {E : XK} (q : relSp K args pre C res vs H Q E) : vs.length = n := by
  obtain ⟨B, a, _, h1, _⟩ := q
  rw [imAll_len h1]; exact h a
def handSp {α β : Type} (K : PySem.W.Frag) (args : α → List PyData) (pre : α → Prop) (C : α → β → Prop) (res : β → PyData) : Sp := fun vs H Q _ =>
  ∃ (B : Bn) (h l : Addr) (a : α) (us : List V), Has B h l ∧ BOk B H ∧ HandOk h l H ∧ vs = .ref h :: us ∧ imAll K B (args a) us H ∧ pre a ∧ ∀ b v H', C a b → Rh h l H H' → im K B (res b) v H' → Q v H'
theorem handSp.len {α β : Type} {K : PySem.W.Frag} {args : α → List PyData} {pre : α → Prop} {C : α → β → Prop} {res : β → PyData} {n : Nat} (h : ∀ a, (args a).length = n) {vs : List V} {H : Hp} {Q : VK} {E : XK} (q : handSp K args pre C res vs H Q E) : vs.length = n + 1 := by
  obtain ⟨B, _, _, a, us, _, _, _, rfl, h1, _⟩ := q
  rw [List.length_cons, imAll_len h1, h a]
section
variable {R : Hp → Hp → Prop} {B : Bn} [rk : Rok B R] {K : PySem.W.Frag} {δ : List (Option PV)} {H H' : Hp}
end
section
variable {B : Bn} {h l : Addr} [hs : Has B h l] {K : PySem.W.Frag} {δ : List (Option PV)} {H : Hp} {t0 : TE} {E : XK}
end
end EL

set_option Elab.async false
set_option linter.all false
set_option maxRecDepth 100000
set_option maxHeartbeats 4000000
set_option autoImplicit false
namespace EL
open PySem PySem.Spec PyProof.Rows L2
section
variable {X : Cx} (K : PySem.W.Frag)
theorem op_addK (h : X.K = K := by rfl) : OpR X (binaryOp .Add) (rAddU K) := h ▸ op_addU
theorem op_mulK (h : X.K = K := by rfl) : OpR X (binaryOp .Mult) (rMulU K) := h ▸ op_mulU
theorem op_eqK (hu : X.A.units + 64 < cLine) (h : X.K = K := by rfl) : OpR X (compareOp .Eq) (rEqU K) := h ▸ op_eqU hu
theorem op_neK (hu : X.A.units + 64 < cLine) (h : X.K = K := by rfl) : OpR X (compareOp .NotEq) (rNeU K) := h ▸ op_neU hu
theorem sl_seqK (h : X.K = K := by rfl) : SlR X (rSlU K) := h ▸ sl_seqU
theorem ix_seqK (h : X.K = K := by rfl) : IxR X (rIx K) := h ▸ ix_seq
theorem op_inK (h : X.K = K := by rfl) : OpR X (compareOp .In) (rIn K false) := h ▸ op_in_seq
theorem op_notInK (h : X.K = K := by rfl) : OpR X (compareOp .NotIn) (rIn K true) := h ▸ op_notIn_seq
theorem call_lenK (h : X.K = K := by rfl) : CallR X (.builtin "len") (rLenQ K) := h ▸ call_len_seq
theorem call_tupleK (h : X.K = K := by rfl) : CallR X (.type "tuple") (rTupQ K) := h ▸ call_tuple_of
theorem call_listK (h : X.K = K := by rfl) : CallR X (.type "list") (rListQ K) := h ▸ call_list_of
theorem call_isiK (h : X.K = K := by rfl) : CallR X (.builtin "isinstance") (rIsi K) := h ▸ call_isi
theorem call_reprK (gd : X.A.guards = some []) (hu : X.A.units + 66 < cLine) (h : X.K = K := by rfl) : CallR X (.builtin "repr") (rReprD K) := h ▸ call_reprD gd hu
theorem cr_anyK (hc : X.calm = true) (h : X.K = K := by rfl) : CallR X (.builtin "any") (rAny K) := h ▸ cr_any hc
theorem cr_allK (hc : X.calm = true) (h : X.K = K := by rfl) : CallR X (.builtin "all") (rAll K) := h ▸ cr_all hc
theorem pi_seqK {tg l : Expr} {t : TE} (e : PE X l t) (h : X.K = K := by rfl) : PI X tg l (iSeqU K t) := h ▸ pi_seqU e
theorem pi_listK {tg l : Expr} {t : TE} (e : PE X l t) (h : X.K = K := by rfl) : PI X tg l (iList K t) := h ▸ pi_list e
end
section
variable {R : Hp → Hp → Prop} {B : Bn} [rk : Rok B R] {K : PySem.W.Frag} {δ : List (Option PV)} {H : Hp} {ta tb te : TE} {tt tu : TT} {D : Ends} {σ : L2.St} {t u : TS}
theorem EvTx.conv {C C' : Bool → Prop} (h : EvTx R B tt δ H C) (c : ∀ b, C b → C' b) : EvTx R B tt δ H C' := fun σ H1 r S Q k => h σ H1 r S Q fun b H2 z r2 => k b H2 (c b z) r2
theorem EvTx.at_ {C : Bool → Prop} {H' : Hp} (h : EvTx R B tt δ H C) (r : R H H') : EvTx R B tt δ H' C := fun σ H2 r2 => h σ H2 (rk.tr r r2)
end
end EL

set_option Elab.async false
set_option linter.all false
set_option maxRecDepth 100000
set_option maxHeartbeats 4000000
set_option autoImplicit false
namespace EL
open PySem PySem.Spec PyProof.Rows L2
section
variable {R : Hp → Hp → Prop} {B : Bn} [rk : Rok B R] {K : PySem.W.Frag} {δ : List (Option PV)} {H H' : Hp} {to ti te : TE} {p q w : PV} {tt : TT} {D : Ends} {σ : L2.St} {t u e : TS} {i j l : Nat}
end
end EL

set_option Elab.async false
set_option linter.all false
set_option maxRecDepth 100000
set_option maxHeartbeats 4000000
set_option autoImplicit false
namespace EL
open PySem PySem.Spec PyProof.Rows L2
section
variable {R : Hp → Hp → Prop} {B : Bn} [rk : Rok B R] {K : PySem.W.Frag} {δ : List (Option PV)} {H : Hp} {te tb : TE}
end
end EL

set_option Elab.async false
set_option linter.all false
set_option maxRecDepth 100000
set_option maxHeartbeats 4000000
set_option autoImplicit false
namespace EL
open PySem PySem.Spec PyProof.Rows L2
section
variable {R : Hp → Hp → Prop} {B : Bn} [rk : Rok B R] {K : PySem.W.Frag} {δ : List (Option PV)} {H : Hp} {ta te tb : TE}
theorem cut_sub {α : Type} {xs : List α} {lo hi : Option Int} {x : α} (h : x ∈ cut xs lo hi) : x ∈ xs := List.mem_of_mem_drop (List.mem_of_mem_take h)
theorem cut_len {α : Type} {xs : List α} {lo hi : Option Int} : (cut xs lo hi).length ≤ xs.length := by
  unfold cut
  rw [List.length_take, List.length_drop]
  omega
end
end EL

set_option Elab.async false
set_option linter.all false
set_option maxRecDepth 100000
set_option maxHeartbeats 4000000
set_option autoImplicit false
namespace EL
open PySem PySem.Spec PyProof.Rows L2
def rLtD (K : PySem.W.Frag) : R2 := fun x y H Q => ∃ d e, Dp K H x d ∧ Dp K H y e ∧ PySem.W.alike d e = true ∧ d ≠ .none ∧ d.depth ≤ 64 ∧ Q (.bl (PySem.W.dataLt d e)) H
theorem op_ltD {X : Cx} (hu : X.A.units + 64 < cLine) : OpR X (compareOp .Lt) (rLtD X.K) := by
  intro pins s σ H x y v u Q I rx ry h
  obtain ⟨d, e, hd, he, ha, hn, hl, q⟩ := h
  obtain ⟨as, r1⟩ := Dp.reads I d x v hd rx
  obtain ⟨bs, r2⟩ := Dp.reads I e y u he ry
  exact PySem.W.rcLt_alike d e X.A s v u as bs r1 r2 ha hn (by omega) _ _ _ _ ⟨.bl _, H, I, rfl, q⟩
def rLtU (K : PySem.W.Frag) : R2 := rOr (rI0 fun i j => .bl (decide (i < j))) (rLtD K)
theorem op_ltK {X : Cx} (K : PySem.W.Frag) (hu : X.A.units + 64 < cLine) (h : X.K = K := by rfl) : OpR X (compareOp .Lt) (rLtU K) := h ▸ op_or op_lt (op_ltD hu)
section
variable {R : Hp → Hp → Prop} {B : Bn} [rk : Rok B R] {K : PySem.W.Frag} {δ : List (Option PV)} {H : Hp} {ta te tb : TE} {D : Ends} {σ : L2.St} {u tbd : TS}
theorem src_zip {ds es : List PyData} (ha : Ev R B ta δ H (im K B (.list ds))) (hb : Ev R B tb δ H (im K B (.list es))) (hl : ds.length = es.length) :
    Src R B (iZip K (tCons ta (tCons tb tNil))) δ H ds.length (fun i => im K B (.tuple [ds.getD i .none, es.getD i .none])) := fun σ H1 r S Q k =>
  ha σ H1 r S _ fun v H2 r2 hv => hb σ H2 (rk.tr r r2) (S.mono (rk.rb r2)) _ fun w H3 r3 ⟨b, ws, e', nb', s', hw⟩ => by
    obtain ⟨a, vs, e, nb, s, hv⟩ := im_st (rk.rb r3) _ _ hv
    refine ⟨a, b, vs, ws, by rw [e, e'], s, s', k _ (fun Hc => (SqL K Hc a vs ∧ SqL K Hc b ws) ∧ imAll K B ds vs Hc ∧ imAll K B es ws Hc) H3 (rk.tr r2 r3) ?_ fun H4 rb => ⟨⟨rb.sqL nb s, rb.sqL nb' s'⟩, imAll_st rb _ _ hv, imAll_st rb _ _ hw⟩⟩
    refine (walk_zip (by rw [imAll_len hv, imAll_len hw, ← hl, Nat.min_self])).mono (fun _ z => z.1) fun i Ha x Hb _ g ⟨T, y, z, ex, hT, eH, e1, e2⟩ => ?_
    subst eH
    have r4 := Ex.new (o := .tup [y, z]) hT
    exact ⟨r4, T, [y, z], ex, sqT_of upd_same, y, [z], rfl, im_st (RB.of_ex r4) _ _ (getD_im g.2.1 e1), z, [], rfl, im_st (RB.of_ex r4) _ _ (getD_im g.2.2 e2), rfl⟩
theorem Ev.own {p : Addr} {vs : List V} {ds : List PyData} (h : Ev R B te δ H (isP (.ref p))) (nb : ¬ B p) (e : H p = some (.lst vs)) (hv : imAll K B ds vs H) : Ev R B te δ H (im K B (.list ds)) :=
  h.conv fun v H1 r q => ⟨p, vs, q, nb, sqL_of ((rk.rb r).keep _ _ nb e), imAll_st (rk.rb r) _ _ hv⟩
end
def PS : List (Option PV) → Prop
  | [] => True
  | none :: l => PS l
  | some q :: l => (∀ v H H', TK H H' → q v H → q v H') ∧ PS l
theorem PS.get : ∀ {δ : List (Option PV)} {i : Nat} {q : PV}, PS δ → δ[i]? = some (some q) → ∀ v H H', TK H H' → q v H → q v H'
  | [], _, _, _, e => by simp at e
  | none :: l, 0, _, _, e => by simp at e
  | none :: l, i + 1, _, h, e => PS.get (δ := l) (i := i) h (by simpa using e)
  | some q :: l, 0, _, h, e => by simp at e; subst e; exact h.1
  | some q :: l, i + 1, _, h, e => PS.get (δ := l) (i := i) h.2 (by simpa using e)
theorem SD.tk {B : Bn} {H H' : Hp} {σ : L2.St} {δ : List (Option PV)} (s : SD B H σ δ) (o : BOk B H') (t : TK H H') (p : PS δ) : SD B H' σ δ := ⟨o, s.len, fun i q e => by
  obtain ⟨a, v, e1, h⟩ := s.at_ i q e
  exact ⟨a, v, e1, p.get e v H H' t h⟩⟩
section
variable {B : Bn} {K : PySem.W.Frag} {δ : List (Option PV)} {H : Hp} {te : TE} {D : Ends} {σ : L2.St} {u : TS}
end
end EL

set_option Elab.async false
set_option linter.all false
set_option maxRecDepth 100000
set_option maxHeartbeats 4000000
set_option autoImplicit false
namespace EL
open PySem PySem.Spec PyProof.Rows L2
def ownE (B : Bn) (a : Addr) : PV := fun v Hc => v = .ref a ∧ ¬ B a ∧ Hc a = some (.lst [])
instance {B : Bn} {a : Addr} : Stb B (ownE B a) := ⟨fun r ⟨e, n, h⟩ => ⟨e, n, r.keep _ _ n h⟩⟩
abbrev ownX (B : Bn) : PV := exP (fun _ : Addr => True) (ownE B)
section
variable {R : Hp → Hp → Prop} {B : Bn} [rk : Rok B R] [rm : Rmk R] {K : PySem.W.Frag} {δ : List (Option PV)} {H : Hp} {ta te tb : TE} {D : Ends} {σ : L2.St} {u tbd : TS}
theorem ev_own (K : PySem.W.Frag) : Ev R B (tLst tNil) δ H (ownX B) := (ev_lstN (K := K) (ds := []) ea_nil (Nat.zero_le _)).conv fun v H1 _ ⟨a, vs, e, n, nb, h, q⟩ => ⟨a, trivial, e, nb, by rw [show vs = [] from q] at h; exact h⟩
end
theorem SD.own {B : Bn} {H : Hp} {σ : L2.St} {δ : List (Option PV)} (s : SD B H σ δ) (i : Nat) (e : δ[i]? = some (some (ownX B))) : ∃ a, ¬ B a ∧ H a = some (.lst []) ∧ SD B H σ (δ.set i (some (isP (.ref a)))) := by
  obtain ⟨v, e1, a, _, ev, nb, h⟩ := s.get e
  refine ⟨a, nb, h, s.ok, by rw [List.length_set]; exact s.len, fun j q e2 => ?_⟩
  by_cases z : i = j
  · subst z
    have hl : i < δ.length := by
      rcases Nat.lt_or_ge i δ.length with z | z
      · exact z
      · rw [List.getElem?_eq_none z] at e; cases e
    rw [List.getElem?_set_self hl] at e2
    cases e2
    exact ⟨inferInstance, v, e1, ev⟩
  · rw [List.getElem?_set_ne z] at e2
    exact s.at_ j q e2
theorem SD.up {B : Bn} {H : Hp} {σ : L2.St} {δ : List (Option PV)} {p q : PV} [hq : Stb B q] (s : SD B H σ δ) (i : Nat) (e : δ[i]? = some (some p)) (h : ∀ v, p v H → q v H) : SD B H σ (δ.set i (some q)) := by
  obtain ⟨v, e1, pv⟩ := s.get e
  refine ⟨s.ok, by rw [List.length_set]; exact s.len, fun j w e2 => ?_⟩
  by_cases z : i = j
  · subst z
    have hl : i < δ.length := by
      rcases Nat.lt_or_ge i δ.length with z | z
      · exact z
      · rw [List.getElem?_eq_none z] at e; cases e
    rw [List.getElem?_set_self hl] at e2
    cases e2
    exact ⟨hq, v, e1, h v pv⟩
  · rw [List.getElem?_set_ne z] at e2
    exact s.at_ j w e2
section
variable {R : Hp → Hp → Prop} {B : Bn} [rk : Rok B R] {K : PySem.W.Frag} {δ : List (Option PV)} {H : Hp} {ta te tb : TE} {D : Ends} {σ : L2.St} {u tbd : TS}
theorem Src.conv {wi : TI} {n m : Nat} {Y Z : Nat → PV} (h : Src R B wi δ H n Y) (e : n = m) (c : ∀ i v Hc, i < n → Y i v Hc → Z i v Hc) : Src R B wi δ H m Z := fun σ H1 r S Q k =>
  h σ H1 r S Q fun J G H2 r2 w g => k J G H2 r2 (e ▸ w.mono (fun _ z => z) fun i Ha x Hb hi _ y => ⟨y.1, c i x Hb hi y.2⟩) g
end
end EL

set_option Elab.async false
set_option linter.all false
set_option maxRecDepth 100000
set_option maxHeartbeats 4000000
set_option autoImplicit false
namespace EL
open PySem PySem.Spec PyProof.Rows L2
def rawL (K : PySem.W.Frag) (B : Bn) (ds : List PyData) : PV := fun v Hc => ∃ a vs, v = .ref a ∧ ¬ B a ∧ Hc a = some (.lst vs) ∧ imAll K B ds vs Hc
instance {K : PySem.W.Frag} {B : Bn} {ds : List PyData} : Stb B (rawL K B ds) := ⟨fun r ⟨a, vs, e, nb, h, q⟩ => ⟨a, vs, e, nb, r.keep _ _ nb h, imAll_st r _ _ q⟩⟩
theorem rawL.im {K : PySem.W.Frag} {B : Bn} {Hc : Hp} {ds : List PyData} {v : V} (h : rawL K B ds v Hc) : im K B (.list ds) v Hc := by
  obtain ⟨a, vs, e, nb, h, q⟩ := h
  exact ⟨a, vs, e, nb, sqL_of h, q⟩
theorem newL.raw {K : PySem.W.Frag} {B : Bn} {H Hc : Hp} {ds : List PyData} {v : V} (h : newL K B H ds v Hc) : rawL K B ds v Hc := by
  obtain ⟨a, vs, e, n, nb, h, q⟩ := h
  exact ⟨a, vs, e, nb, h, q⟩
section
variable {R : Hp → Hp → Prop} {B : Bn} [rk : Rok B R] {K : PySem.W.Frag} {δ : List (Option PV)} {H : Hp} {ta te tb : TE} {D : Ends} {σ : L2.St} {u tbd : TS}
theorem ev_max2 {i j : Int} (ha : Ev R B ta δ H (im K B (.int i))) (hb : Ev R B tb δ H (im K B (.int j))) : Ev R B (tCB (fun xs H Q => ∃ i j, xs = [.int i, .int j] ∧ Q (.int (if j > i then j else i)) H) (tCons ta (tCons tb tNil))) δ H (im K B (.int (if j > i then j else i))) :=
  ev_cb (ea_cons ha (ea_cons hb ea_nil)) fun vs H1 _ _ ⟨v, r, e, h1, v2, r2, e2, h2, e3⟩ Q k => by
    subst e e2; cases (show r2 = [] from e3)
    rw [show v = _ from h1, show v2 = _ from h2]
    exact ⟨i, j, rfl, k _ H1 (rk.rf H1) rfl⟩
def SrcD (R : Hp → Hp → Prop) (B : Bn) (wi : TI) (δ : List (Option PV)) (H : Hp) (n : Nat) (Y : Nat → PV) : Prop := ∀ σ H1 A, R H H1 → SD B H1 σ δ → H1 A ≠ none → ∀ Q : It → Hp → Prop,
  (∀ (J : It) (G : Hp → Prop) (H2 : Hp), R H1 H2 → Walk J n G (fun i Ha x Hb => Ex Ha Hb ∧ Y i x Hb) → (∀ H3, RB (fun a => B a ∨ a = A) H2 H3 → G H3) → Q J H2) → wi σ H1 Q
end
end EL

set_option Elab.async false
set_option linter.all false
set_option maxRecDepth 100000
set_option maxHeartbeats 4000000
set_option autoImplicit false
namespace EL
open PySem PySem.Spec PyProof.Rows L2
section
variable {R : Hp → Hp → Prop} {B : Bn} [rk : Rok B R] {K : PySem.W.Frag} {δ : List (Option PV)} {H : Hp} {ta te tb : TE} {D : Ends} {σ : L2.St} {u tbd : TS} {tt : TT}
def newSp {α : Type} (K : PySem.W.Frag) (args : α → List PyData) (pre : α → Prop) (res : α → List PyData) : Sp := fun vs H Q _ =>
  ∃ a : α, imAll K (fun _ => False) (args a) vs H ∧ pre a ∧ ∀ v H', Ex H H' → newL K (fun _ => False) H (res a) v H' → Q v H'
theorem newSp.len {α : Type} {K : PySem.W.Frag} {args : α → List PyData} {pre : α → Prop} {res : α → List PyData} {n : Nat} (h : ∀ a, (args a).length = n) {vs : List V} {H : Hp} {Q : VK} {E : XK} (q : newSp K args pre res vs H Q E) : vs.length = n := by
  obtain ⟨a, hv, _⟩ := q
  rw [imAll_len hv, h]
theorem SrcD.conv {wi : TI} {n m : Nat} {Y Z : Nat → PV} (h : SrcD R B wi δ H n Y) (e : n = m) (c : ∀ i v Hc, i < n → Y i v Hc → Z i v Hc) : SrcD R B wi δ H m Z := fun σ H1 A r S hA Q k =>
  h σ H1 A r S hA Q fun J G H2 r2 w g => k J G H2 r2 (e ▸ w.mono (fun _ z => z) fun i Ha x Hb hi _ y => ⟨y.1, c i x Hb hi y.2⟩) g
end
section
variable {B : Bn} {K : PySem.W.Frag} {δ : List (Option PV)} {H : Hp} {te : TE} {D : Ends} {σ : L2.St} {u : TS}
end
end EL

set_option Elab.async false
set_option linter.all false
set_option maxRecDepth 100000
set_option maxHeartbeats 4000000
set_option autoImplicit false
namespace EL
open PySem PySem.Spec PyProof.Rows L2
def rowsI (L : Nat) : Nat → List (List Int)
  | 0 => [[]]
  | n + 1 => (rowsI L n).flatMap fun row => (List.range L).map fun x => row ++ [((x : Nat) : Int)]
def blk (L m k : Nat) : List (List Int × List Int) := (rowsI L k).flatMap fun b => (rowsI L (m - k)).map fun r => (b, r)
end EL

set_option Elab.async false
set_option linter.all false
set_option maxRecDepth 100000
set_option maxHeartbeats 4000000
set_option autoImplicit false
namespace EL
open PySem PySem.Spec PyProof.Rows L2
theorem newL.back {K : PySem.W.Frag} {B : Bn} {H H0 Hc : Hp} {ds : List PyData} {v : V} (e : Ex H H0) (h : newL K B H0 ds v Hc) : newL K B H ds v Hc := by
  obtain ⟨a, vs, ev, n, nb, hx, hv⟩ := h
  exact ⟨a, vs, ev, e.free n, nb, hx, hv⟩
section
variable {R : Hp → Hp → Prop} {B : Bn} [rk : Rok B R] {K : PySem.W.Frag} {δ δ' : List (Option PV)} {H : Hp} {ta te tb : TE} {D : Ends} {σ : L2.St} {u tbd : TS} {tt : TT}
end
section
variable {B : Bn} {K : PySem.W.Frag} {δ δ' : List (Option PV)} {H : Hp} {te : TE} {D : Ends} {σ : L2.St} {u : TS}
end
end EL

set_option Elab.async false
set_option linter.all false
set_option maxRecDepth 100000
set_option maxHeartbeats 4000000
set_option autoImplicit false
namespace EL
open PySem PySem.Spec PyProof.Rows L2
section
variable {B : Bn} {K : PySem.W.Frag} {δ δ' : List (Option PV)} {H : Hp} {te : TE} {D : Ends} {σ : L2.St} {u : TS}
end
abbrev plus (B : Bn) (p : Addr) : Bn := fun a => B a ∨ a = p
theorem plus.ok {B : Bn} {p : Addr} {H : Hp} {xs : List V} (o : BOk B H) (h : H p = some (.lst xs)) : BOk (plus B p) H := fun a z => z.elim (o a) fun e => by rw [e, h]; exact fun q => nomatch q
end EL

set_option Elab.async false
set_option linter.all false
set_option maxRecDepth 100000
set_option maxHeartbeats 4000000
set_option autoImplicit false
namespace EL
open PySem PySem.Spec PyProof.Rows L2
end EL

set_option Elab.async false
set_option linter.all false
set_option maxRecDepth 100000
set_option maxHeartbeats 4000000
set_option autoImplicit false
namespace EL
open PySem PySem.Spec PyProof.Rows L2
theorem op_inDK {X : Cx} (K : PySem.W.Frag) (hu : X.A.units + 66 < cLine) (h : X.K = K := by rfl) : OpR X (compareOp .In) (rInD K) := h ▸ op_inD (by omega)
theorem op_notInDK {X : Cx} (K : PySem.W.Frag) (hu : X.A.units + 66 < cLine) (h : X.K = K := by rfl) : OpR X (compareOp .NotIn) (rNotInD K) := h ▸ op_notInD (by omega)
section
variable {R : Hp → Hp → Prop} {B : Bn} [rk : Rok B R] {K : PySem.W.Frag} {δ : List (Option PV)} {H : Hp} {ta te tb : TE}
end
end EL

set_option Elab.async false
set_option linter.all false
set_option maxRecDepth 100000
set_option maxHeartbeats 4000000
set_option autoImplicit false
namespace EL
open PySem PySem.Spec PyProof.Rows L2
section
variable {B : Bn} {h l : Addr} [hs : Has B h l] {K : PySem.W.Frag} {δ : List (Option PV)} {H : Hp} {te : TE} {D : Ends} {σ : L2.St}
end
end EL

set_option Elab.async false
set_option linter.all false
set_option maxRecDepth 100000
set_option maxHeartbeats 4000000
set_option autoImplicit false
namespace UX
open PySem PySem.Spec PyProof.Rows L2
open EL (Ex RB BOk Bn TK)
inductive U where
  | non | bl (b : Bool) | int (i : Int) | str (x : Str)
  | tup (us : List U) | lst (us : List U)
  | dct (ks : List Key) (us : List U)
  | dcT (ks : List (List Key)) (us : List U)
  | dcN (ks : List U) (us : List U)
  | obj (c : Str) (ns : List Str) (us : List U)
  | top (x : Str)
  | frl (us : List U)
  | loc (i : Nat)
  | exc (c : Str)
mutual
def nkU : U → Option NestedKey
  | .non => some .none
  | .bl b => some (.num (if b = true then 1 else 0))
  | .int i => some (.num i)
  | .tup us => (nkAll us).map .tup
  | .str _ => none
  | .lst _ => none
  | .dct _ _ => none
  | .dcT _ _ => none
  | .dcN _ _ => none
  | .obj _ _ _ => none
  | .top _ => none
  | .frl _ => none
  | .loc _ => none
  | .exc _ => none
def nkAll : List U → Option (List NestedKey)
  | [] => some []
  | u :: us => match nkU u, nkAll us with
    | some d, some ds => some (d :: ds)
    | _, _ => none
end
def nk8 (u : U) : Option NestedKey := match nkU u with
  | some k => if k.depth ≤ 8 then some k else none
  | none => none
def nk8s : List U → Option (List NestedKey)
  | [] => some []
  | u :: us => match nk8 u, nk8s us with
    | some d, some ds => some (d :: ds)
    | _, _ => none
abbrev NP : Type := NestedKey × Addr × V
def nkA (kvs : List NP) : List V := kvs.map fun x => V.ref x.2.1
def nkV (kvs : List NP) : List V := kvs.map fun x => x.2.2
def NKV (kvs : List NP) (xs : List (NestedKey × Addr × Value)) : Prop := Paired (fun (p : NP) (q : NestedKey × Addr × Value) => p.1 = q.1 ∧ p.2.1 = q.2.1 ∧ RelV p.2.2 q.2.2) kvs xs
def DNh (P : Program) (w : World) (a : Addr) (kvs : List NP) (h : Heap) : Prop := kvs.length ≤ sizeLine ∧ (a == sysModules) = false ∧ ∃ xs : List (NestedKey × Addr × Value), NKV kvs xs ∧
  ∃ o es ep, h.get? a = some o ∧ o.ExactDict ∧ o.data = .dict es ep ∧ es.toList = xs.map (entryOfKey (nestedKind P w)) ∧ (xs.map (·.1)).Nodup
def DNo (a : Addr) (kvs : List NP) : HO := .ext fun h => ∃ (P : Program) (w : World), DNh P w a kvs h
def ExK (C a : Addr) : HO := .ext fun h => ∃ (oe : Obj) (vs : Array Value), h.get? a = some oe ∧ (oe.cls = .ref C ∧ oe.dict = none) ∧ oe.data = .fields vs
structure Cxt where
  K : PySem.W.Frag
  at_ : Str → Addr
def FrL (K : PySem.W.Frag) (B : Bn) (H : Hp) (a : Addr) (vs : List V) : Prop := (¬ B a ∧ H a = some (.lst vs)) ∨ (∃ o, H a = some (.frz o (.lst vs))) ∨ SqL K (fun _ => none) a vs
theorem FrL.sq {K : PySem.W.Frag} {B : Bn} {H : Hp} {a : Addr} {vs : List V} (h : FrL K B H a vs) : SqL K H a vs := by
  rcases h with ⟨_, h⟩ | ⟨o, h⟩ | h
  · exact .inl (.inl h)
  · exact .inl (.inr ⟨o, h⟩)
  · rcases h with (h | ⟨o, h⟩) | h
    · cases h
    · cases h
    · exact .inr h
theorem FrL.of {K : PySem.W.Frag} {B : Bn} {H : Hp} {a : Addr} {vs : List V} (nb : ¬ B a) (h : SqL K H a vs) : FrL K B H a vs := by
  rcases h with (h | ⟨o, h⟩) | h
  · exact .inl ⟨nb, h⟩
  · exact .inr (.inl ⟨o, h⟩)
  · exact .inr (.inr (.inr h))
structure Kd (B : Bn) (H H' : Hp) : Prop where
  lst : ∀ a xs, ¬ B a → H a = some (.lst xs) → H' a = some (.lst xs)
  ins : ∀ a C dx fs, ¬ B a → H a = some (.ins C dx fs) → H' a = some (.ins C dx fs)
  dK : ∀ a kvs, ¬ B a → Rd H a (.dK kvs) → Rd H' a (.dK kvs)
  dT : ∀ a kvs, ¬ B a → Rd H a (.dT kvs) → Rd H' a (.dT kvs)
  ext : ∀ a φ, ¬ B a → Rd H a (.ext φ) → Rd H' a (.ext φ)
  tup : ∀ a xs, H a = some (.tup xs) → H' a = some (.tup xs)
  ftup : ∀ a o xs, H a = some (.frz o (.tup xs)) → H' a = some (.frz o (.tup xs))
  flst : ∀ a o xs, H a = some (.frz o (.lst xs)) → H' a = some (.frz o (.lst xs))
theorem kd_of {B : Bn} {H H' : Hp} (r : RB B H H') : Kd B H H' :=
  ⟨fun a xs n h => r.keep _ _ n h, fun a C dx fs n h => r.keep _ _ n h,
   fun a kvs n h => h.elim (fun h => .inl (r.keep _ _ n h)) fun ⟨o, h⟩ => .inr ⟨o, r.frz _ _ _ h⟩,
   fun a kvs n h => h.elim (fun h => .inl (r.keep _ _ n h)) fun ⟨o, h⟩ => .inr ⟨o, r.frz _ _ _ h⟩,
   fun a φ n h => h.elim (fun h => .inl (r.keep _ _ n h)) fun ⟨o, h⟩ => .inr ⟨o, r.frz _ _ _ h⟩, r.tup, fun a o xs h => r.frz _ _ _ h, fun a o xs h => r.frz _ _ _ h⟩
theorem Kd.dN {B : Bn} {H H' : Hp} (r : Kd B H H') (a b : Addr) (kvs : List NP) (n : ¬ B a) (h : Rd H a (DNo b kvs)) : Rd H' a (DNo b kvs) := r.ext a _ n h
theorem Kd.sqT {B : Bn} {K : PySem.W.Frag} {H H' : Hp} {a : Addr} {xs : List V} (r : Kd B H H') (h : SqT K H a xs) : SqT K H' a xs := by
  rcases h with (h | ⟨o, h⟩) | h
  · exact .inl (.inl (r.tup _ _ h))
  · exact .inl (.inr ⟨o, r.ftup _ _ _ h⟩)
  · exact .inr h
theorem FrL.st {K : PySem.W.Frag} {B : Bn} {H H' : Hp} {a : Addr} {vs : List V} (r : Kd B H H') (h : FrL K B H a vs) : FrL K B H' a vs := by
  rcases h with ⟨n, h⟩ | ⟨o, h⟩ | h
  · exact .inl ⟨n, r.lst _ _ n h⟩
  · exact .inr (.inl ⟨o, r.flst _ _ _ h⟩)
  · exact .inr (.inr h)
theorem FrL.sub {K : PySem.W.Frag} {B B' : Bn} {H : Hp} {a : Addr} {vs : List V} (s : ∀ a, H a ≠ none → B' a → B a) (h : FrL K B H a vs) : FrL K B' H a vs := by
  rcases h with ⟨n, h⟩ | ⟨o, h⟩ | h
  · exact .inl ⟨fun b => n (s a (by rw [h]; exact fun z => nomatch z) b), h⟩
  · exact .inr (.inl ⟨o, h⟩)
  · exact .inr (.inr h)
theorem rd_ne {H : Hp} {a : Addr} {u : HO} (h : Rd H a u) : H a ≠ none := by
  rcases h with h | ⟨o, h⟩ <;> rw [h] <;> exact fun z => nomatch z
section
variable (G : Cxt) (rs : List Addr) (B : Bn)
mutual
def im : U → V → Hp → Prop
  | .non, v, _ => v = .non
  | .bl b, v, _ => v = .bl b
  | .int i, v, _ => v = .int i
  | .str x, v, _ => v = .str x
  | .tup us, v, H => ∃ a vs, v = .ref a ∧ H a = some (.tup vs) ∧ imAll us vs H
  | .lst us, v, H => ∃ a vs, v = .ref a ∧ ¬ B a ∧ H a = some (.lst vs) ∧ imAll us vs H
  | .dct ks us, v, H => ∃ a vs, v = .ref a ∧ ¬ B a ∧ Rd H a (.dK (ks.zip vs)) ∧ ks.length = us.length ∧ imAll us vs H
  | .dcT ks us, v, H => ∃ a vs, v = .ref a ∧ ¬ B a ∧ Rd H a (.dT (ks.zip vs)) ∧ ks.length = us.length ∧ imAll us vs H
  | .dcN ks us, v, H => ∃ a kvs, v = .ref a ∧ ¬ B a ∧ Rd H a (DNo a kvs) ∧ nk8s ks = some (kvs.map (·.1)) ∧ imAll ks (nkA kvs) H ∧ imAll us (nkV kvs) H
  | .obj c ns us, v, H => ∃ a dx vs, v = .ref a ∧ ¬ B a ∧ H a = some (.ins (G.at_ c) dx (ns.zip vs)) ∧ ns.length = us.length ∧ imAll us vs H
  | .top x, v, _ => v = .ref (G.at_ x)
  | .frl us, v, H => ∃ a vs, v = .ref a ∧ FrL G.K B H a vs ∧ imAll us vs H
  | .loc i, v, _ => ∃ a, rs[i]? = some a ∧ v = .ref a
  | .exc c, v, H => ∃ a, v = .ref a ∧ ¬ B a ∧ Rd H a (ExK (G.at_ c) a)
def imAll : List U → List V → Hp → Prop
  | [], vs, _ => vs = []
  | u :: us, vs, H => ∃ v r, vs = v :: r ∧ im u v H ∧ imAll us r H
end
end
section
variable {G : Cxt} {rs rs' : List Addr} {B B' : Bn} {H H' : Hp}
mutual
theorem im_kd (r : Kd B H H') : ∀ (u : U) (v : V), im G rs B u v H → im G rs B u v H'
  | .non, _, h => h
  | .bl _, _, h => h
  | .int _, _, h => h
  | .str _, _, h => h
  | .tup us, _, ⟨a, vs, e, s, q⟩ => ⟨a, vs, e, r.tup _ _ s, imAll_kd r us vs q⟩
  | .lst us, _, ⟨a, vs, e, n, s, q⟩ => ⟨a, vs, e, n, r.lst _ _ n s, imAll_kd r us vs q⟩
  | .dct ks us, _, ⟨a, vs, e, n, s, l, q⟩ => ⟨a, vs, e, n, r.dK _ _ n s, l, imAll_kd r us vs q⟩
  | .dcT ks us, _, ⟨a, vs, e, n, s, l, q⟩ => ⟨a, vs, e, n, r.dT _ _ n s, l, imAll_kd r us vs q⟩
  | .dcN ks us, _, ⟨a, kvs, e, n, s, l, q1, q2⟩ => ⟨a, kvs, e, n, r.dN _ _ _ n s, l, imAll_kd r ks _ q1, imAll_kd r us _ q2⟩
  | .obj c ns us, _, ⟨a, dx, vs, e, n, s, l, q⟩ => ⟨a, dx, vs, e, n, r.ins _ _ _ _ n s, l, imAll_kd r us vs q⟩
  | .top _, _, h => h
  | .frl us, _, ⟨a, vs, e, s, q⟩ => ⟨a, vs, e, s.st r, imAll_kd r us vs q⟩
  | .loc _, _, h => h
  | .exc _, _, ⟨a, e, n, s⟩ => ⟨a, e, n, r.ext _ _ n s⟩
theorem imAll_kd (r : Kd B H H') : ∀ (us : List U) (vs : List V), imAll G rs B us vs H → imAll G rs B us vs H'
  | [], _, h => h
  | u :: us, _, ⟨v, w, e, h1, h2⟩ => ⟨v, w, e, im_kd r u v h1, imAll_kd r us w h2⟩
end
theorem im_st (r : RB B H H') (u : U) (v : V) (h : im G rs B u v H) : im G rs B u v H' := im_kd (kd_of r) u v h
theorem imAll_st (r : RB B H H') (us : List U) (vs : List V) (h : imAll G rs B us vs H) : imAll G rs B us vs H' := imAll_kd (kd_of r) us vs h
mutual
theorem im_sub (s : ∀ a, H a ≠ none → B' a → B a) : ∀ (u : U) (v : V), im G rs B u v H → im G rs B' u v H
  | .non, _, h => h
  | .bl _, _, h => h
  | .int _, _, h => h
  | .str _, _, h => h
  | .tup us, _, ⟨a, vs, e, t, q⟩ => ⟨a, vs, e, t, imAll_sub s us vs q⟩
  | .lst us, _, ⟨a, vs, e, n, t, q⟩ => ⟨a, vs, e, fun b => n (s a (by rw [t]; exact fun z => nomatch z) b), t, imAll_sub s us vs q⟩
  | .dct ks us, _, ⟨a, vs, e, n, t, l, q⟩ => ⟨a, vs, e, fun b => n (s a (rd_ne t) b), t, l, imAll_sub s us vs q⟩
  | .dcT ks us, _, ⟨a, vs, e, n, t, l, q⟩ => ⟨a, vs, e, fun b => n (s a (rd_ne t) b), t, l, imAll_sub s us vs q⟩
  | .dcN ks us, _, ⟨a, kvs, e, n, t, l, q1, q2⟩ => ⟨a, kvs, e, fun b => n (s a (rd_ne t) b), t, l, imAll_sub s ks _ q1, imAll_sub s us _ q2⟩
  | .obj c ns us, _, ⟨a, dx, vs, e, n, t, l, q⟩ => ⟨a, dx, vs, e, fun b => n (s a (by rw [t]; exact fun z => nomatch z) b), t, l, imAll_sub s us vs q⟩
  | .top _, _, h => h
  | .frl us, _, ⟨a, vs, e, t, q⟩ => ⟨a, vs, e, t.sub s, imAll_sub s us vs q⟩
  | .loc _, _, h => h
  | .exc _, _, ⟨a, e, n, t⟩ => ⟨a, e, fun b => n (s a (rd_ne t) b), t⟩
theorem imAll_sub (s : ∀ a, H a ≠ none → B' a → B a) : ∀ (us : List U) (vs : List V), imAll G rs B us vs H → imAll G rs B' us vs H
  | [], _, h => h
  | u :: us, _, ⟨v, w, e, h1, h2⟩ => ⟨v, w, e, im_sub s u v h1, imAll_sub s us w h2⟩
end
mutual
theorem im_rs (s : ∀ (i : Nat) (a : Addr), rs[i]? = some a → rs'[i]? = some a) : ∀ (u : U) (v : V), im G rs B u v H → im G rs' B u v H
  | .non, _, h => h
  | .bl _, _, h => h
  | .int _, _, h => h
  | .str _, _, h => h
  | .tup us, _, ⟨a, vs, e, t, q⟩ => ⟨a, vs, e, t, imAll_rs s us vs q⟩
  | .lst us, _, ⟨a, vs, e, n, t, q⟩ => ⟨a, vs, e, n, t, imAll_rs s us vs q⟩
  | .dct ks us, _, ⟨a, vs, e, n, t, l, q⟩ => ⟨a, vs, e, n, t, l, imAll_rs s us vs q⟩
  | .dcT ks us, _, ⟨a, vs, e, n, t, l, q⟩ => ⟨a, vs, e, n, t, l, imAll_rs s us vs q⟩
  | .dcN ks us, _, ⟨a, kvs, e, n, t, l, q1, q2⟩ => ⟨a, kvs, e, n, t, l, imAll_rs s ks _ q1, imAll_rs s us _ q2⟩
  | .obj c ns us, _, ⟨a, dx, vs, e, n, t, l, q⟩ => ⟨a, dx, vs, e, n, t, l, imAll_rs s us vs q⟩
  | .top _, _, h => h
  | .frl us, _, ⟨a, vs, e, t, q⟩ => ⟨a, vs, e, t, imAll_rs s us vs q⟩
  | .loc _, _, ⟨a, e, h⟩ => ⟨a, s _ _ e, h⟩
  | .exc _, _, h => h
theorem imAll_rs (s : ∀ (i : Nat) (a : Addr), rs[i]? = some a → rs'[i]? = some a) : ∀ (us : List U) (vs : List V), imAll G rs B us vs H → imAll G rs' B us vs H
  | [], _, h => h
  | u :: us, _, ⟨v, w, e, h1, h2⟩ => ⟨v, w, e, im_rs s u v h1, imAll_rs s us w h2⟩
end
theorem imAll_len : ∀ {us : List U} {vs : List V}, imAll G rs B us vs H → vs.length = us.length
  | [], _, h => by rw [show _ = _ from h]; rfl
  | d :: ds, _, ⟨v, w, e, _, h2⟩ => by rw [e, List.length_cons, List.length_cons, imAll_len h2]
theorem imAll_get : ∀ {us : List U} {vs : List V} {i : Nat} {u : U}, imAll G rs B us vs H → us[i]? = some u → ∃ v, vs[i]? = some v ∧ im G rs B u v H
  | [], _, _, _, _, e => by simp at e
  | d :: ds, _, 0, d', ⟨v, w, e, h1, h2⟩, e' => by
    simp at e'; subst e' e; exact ⟨v, rfl, h1⟩
  | d :: ds, _, i + 1, d', ⟨v, w, e, h1, h2⟩, e' => by
    subst e
    obtain ⟨x, e1, e2⟩ := imAll_get (i := i) h2 (by simpa using e')
    exact ⟨x, by simpa using e1, e2⟩
theorem imAll_getV : ∀ {us : List U} {vs : List V} {i : Nat} {v : V}, imAll G rs B us vs H → vs[i]? = some v → ∃ u, us[i]? = some u ∧ im G rs B u v H
  | [], _, _, _, h, e => by rw [show _ = _ from h] at e; simp at e
  | d :: ds, _, 0, v', ⟨v, w, e, h1, h2⟩, e' => by
    subst e; simp at e'; subst e'; exact ⟨d, rfl, h1⟩
  | d :: ds, _, i + 1, v', ⟨v, w, e, h1, h2⟩, e' => by
    subst e
    obtain ⟨x, e1, e2⟩ := imAll_getV (i := i) h2 (by simpa using e')
    exact ⟨x, by simpa using e1, e2⟩
theorem imAll_append : ∀ {us us' : List U} {vs ws : List V}, imAll G rs B us vs H → imAll G rs B us' ws H → imAll G rs B (us ++ us') (vs ++ ws) H
  | [], _, _, _, h, h' => by rw [show _ = _ from h]; exact h'
  | d :: ds, es, _, ws, ⟨v, w, e, h1, h2⟩, h' => by
    subst e; exact ⟨v, w ++ ws, rfl, h1, imAll_append h2 h'⟩
theorem imAll_snoc {us : List U} {vs : List V} {u : U} {v : V} (h : imAll G rs B us vs H) (h' : im G rs B u v H) : imAll G rs B (us ++ [u]) (vs ++ [v]) H := imAll_append h ⟨v, [], rfl, h', rfl⟩
theorem imAll_take : ∀ {us : List U} {vs : List V} (n : Nat), imAll G rs B us vs H → imAll G rs B (us.take n) (vs.take n) H
  | _, _, 0, _ => rfl
  | [], _, n + 1, h => by rw [show _ = _ from h]; rfl
  | d :: ds, _, n + 1, ⟨v, w, e, h1, h2⟩ => by subst e; exact ⟨v, _, rfl, h1, imAll_take n h2⟩
theorem imAll_drop : ∀ {us : List U} {vs : List V} (n : Nat), imAll G rs B us vs H → imAll G rs B (us.drop n) (vs.drop n) H
  | _, _, 0, h => h
  | [], _, n + 1, h => by rw [show _ = _ from h]; rfl
  | d :: ds, _, n + 1, ⟨v, w, e, h1, h2⟩ => by subst e; exact imAll_drop n h2
theorem imAll_rep {us : List U} {vs : List V} (h : imAll G rs B us vs H) : ∀ n : Nat, imAll G rs B (List.replicate n us).flatten (List.replicate n vs).flatten H
  | 0 => rfl
  | n + 1 => by
    rw [List.replicate_succ, List.replicate_succ, List.flatten_cons, List.flatten_cons]
    exact imAll_append h (imAll_rep h n)
theorem imAll_set : ∀ {us : List U} {vs : List V} {i : Nat} {u : U} {v : V}, imAll G rs B us vs H → im G rs B u v H → imAll G rs B (us.set i u) (vs.set i v) H
  | [], _, _, _, _, h, _ => by rw [show _ = _ from h]; rfl
  | d :: ds, _, 0, u, v, ⟨v', w, e, h1, h2⟩, h => by subst e; exact ⟨v, w, rfl, h, h2⟩
  | d :: ds, _, i + 1, u, v, ⟨v', w, e, h1, h2⟩, h => by subst e; exact ⟨v', _, rfl, h1, imAll_set h2 h⟩
theorem imAll_rev {us : List U} {vs : List V} (h : imAll G rs B us vs H) : imAll G rs B us.reverse vs.reverse H := by
  induction us generalizing vs with
  | nil => rw [show vs = [] from h]; rfl
  | cons u us ih =>
    obtain ⟨v, r, e, h1, h2⟩ := h
    subst e
    rw [List.reverse_cons, List.reverse_cons]
    exact imAll_snoc (ih h2) h1
end
mutual
def pd : U → Option PyData
  | .non => some .none
  | .bl b => some (.bool b)
  | .int i => some (.int i)
  | .str x => some (.str x)
  | .tup us => (pdAll us).map .tuple
  | .lst us => (pdAll us).map .list
  | .dct _ _ => none
  | .dcT _ _ => none
  | .dcN _ _ => none
  | .obj _ _ _ => none
  | .top _ => none
  | .frl us => (pdAll us).map .list
  | .loc _ => none
  | .exc _ => none
def pdAll : List U → Option (List PyData)
  | [] => some []
  | u :: us => match pd u, pdAll us with
    | some d, some ds => some (d :: ds)
    | _, _ => none
end
section
variable {G : Cxt} {rs : List Addr} {B B' : Bn} {H H' : Hp}
mutual
theorem im_dp : ∀ (u : U) (v : V) (d : PyData), im G rs B u v H → pd u = some d → Dp G.K H v d
  | .non, _, _, h, e => by cases h; cases e; exact .non
  | .bl _, _, _, h, e => by cases h; cases e; exact .bl _
  | .int _, _, _, h, e => by cases h; cases e; exact .int _
  | .str _, _, _, h, e => by cases h; cases e; exact .str _
  | .tup us, _, d, ⟨a, vs, e, s, q⟩, e' => by
    subst e
    obtain ⟨ds, e1, rfl⟩ := Option.map_eq_some_iff.mp (show (pdAll us).map .tuple = some d from e')
    exact .tup (EL.sqT_of s) (imAll_dp us vs ds q e1)
  | .lst us, _, d, ⟨a, vs, e, _, s, q⟩, e' => by
    subst e
    obtain ⟨ds, e1, rfl⟩ := Option.map_eq_some_iff.mp (show (pdAll us).map .list = some d from e')
    exact .lst (.inl (.inl s)) (imAll_dp us vs ds q e1)
  | .dct _ _, _, _, _, e' => by cases e'
  | .dcT _ _, _, _, _, e' => by cases e'
  | .dcN _ _, _, _, _, e' => by cases e'
  | .obj _ _ _, _, _, _, e' => by cases e'
  | .top _, _, _, _, e' => by cases e'
  | .frl us, _, d, ⟨a, vs, e, s, q⟩, e' => by
    subst e
    obtain ⟨ds, e1, rfl⟩ := Option.map_eq_some_iff.mp (show (pdAll us).map .list = some d from e')
    exact .lst s.sq (imAll_dp us vs ds q e1)
  | .loc _, _, _, _, e' => by cases e'
  | .exc _, _, _, _, e' => by cases e'
theorem imAll_dp : ∀ (us : List U) (vs : List V) (ds : List PyData), imAll G rs B us vs H → pdAll us = some ds → DpAll G.K H vs ds
  | [], _, _, h, e => by rw [show _ = _ from h]; cases e; exact .nil
  | u :: us, _, ds, ⟨v, w, e, h1, h2⟩, e' => by
    subst e
    rw [pdAll] at e'
    cases e1 : pd u with
    | none => rw [e1] at e'; cases e'
    | some d =>
      cases e2 : pdAll us with
      | none => rw [e1, e2] at e'; cases e'
      | some ds => rw [e1, e2] at e'; cases e'; exact .cons (im_dp u v d h1 e1) (imAll_dp us w ds h2 e2)
end
end
inductive Sh where
  | leaf | lst (s : Sh) | dct (s : Sh) | tup (f : Nat → Sh) | obj (f : Str → Sh)
def ownZ (P : Nat → U → V → Hp → List Addr → Prop) : Nat → List U → List V → Hp → List Addr → Prop
  | _, [], vs, _, A => vs = [] ∧ A = []
  | n, u :: us, vs, H, A => ∃ v r A1 A2, vs = v :: r ∧ A = A1 ++ A2 ∧ P n u v H A1 ∧ ownZ P (n + 1) us r H A2
def ownD (G : Cxt) (rs : List Addr) (B : Bn) : Sh → U → V → Hp → List Addr → Prop
  | .leaf, u, v, H, A => A = [] ∧ im G rs B u v H
  | .lst s, .lst us, v, H, A => ∃ a vs A', v = .ref a ∧ A = a :: A' ∧ H a = some (.lst vs) ∧ ownZ (fun _ => ownD G rs B s) 0 us vs H A'
  | .dct s, .dct ks us, v, H, A => ∃ a vs A', v = .ref a ∧ A = a :: A' ∧ H a = some (.dK (ks.zip vs)) ∧ ks.length = us.length ∧ ownZ (fun _ => ownD G rs B s) 0 us vs H A'
  | .dct s, .dcT ks us, v, H, A => ∃ a vs A', v = .ref a ∧ A = a :: A' ∧ H a = some (.dT (ks.zip vs)) ∧ ks.length = us.length ∧ ownZ (fun _ => ownD G rs B s) 0 us vs H A'
  | .dct s, .dcN ks us, v, H, A => ∃ a kvs A', v = .ref a ∧ A = a :: A' ∧ H a = some (DNo a kvs) ∧ nk8s ks = some (kvs.map (·.1)) ∧ imAll G rs B ks (nkA kvs) H ∧ ownZ (fun _ => ownD G rs B s) 0 us (nkV kvs) H A'
  | .tup f, .tup us, v, H, A => ∃ a vs, v = .ref a ∧ H a = some (.tup vs) ∧ ownZ (fun n => ownD G rs B (f n)) 0 us vs H A
  | .obj f, .obj c ns us, v, H, A => ∃ a dx vs A', v = .ref a ∧ A = a :: A' ∧ H a = some (.ins (G.at_ c) dx (ns.zip vs)) ∧ ns.length = us.length ∧ ownZ (fun n => ownD G rs B (f (ns.getD n ""))) 0 us vs H A'
  | _, _, _, _, _ => False
section
variable {G : Cxt} {rs rs' : List Addr} {B B' : Bn} {H H' : Hp}
theorem ownZ_mono {P P' : Nat → U → V → Hp → List Addr → Prop} : ∀ {us : List U} {n : Nat} {vs : List V} {A : List Addr}, (∀ n u v A1, (∀ a ∈ A1, a ∈ A) → P n u v H A1 → P' n u v H' A1) → ownZ P n us vs H A → ownZ P' n us vs H' A
  | [], _, _, _, _, h => h
  | u :: us, n, _, _, f, ⟨v, r, A1, A2, e1, e2, h1, h2⟩ => ⟨v, r, A1, A2, e1, e2, f n u v A1 (fun a m => by rw [e2]; exact List.mem_append_left _ m) h1,
      ownZ_mono (fun n u v A3 s p => f n u v A3 (fun a m => by rw [e2]; exact List.mem_append_right _ (s a m)) p) h2⟩
theorem ownZ_len {P : Nat → U → V → Hp → List Addr → Prop} : ∀ {us : List U} {n : Nat} {vs : List V} {A : List Addr}, ownZ P n us vs H A → vs.length = us.length
  | [], _, _, _, h => by rw [h.1]; rfl
  | u :: us, n, _, _, ⟨v, r, A1, A2, e1, e2, h1, h2⟩ => by rw [e1, List.length_cons, List.length_cons, ownZ_len h2]
theorem imAll_mono (hk : ∀ u v, im G rs B u v H → im G rs' B' u v H') : ∀ (us : List U) (vs : List V), imAll G rs B us vs H → imAll G rs' B' us vs H'
  | [], _, h => h
  | u :: us, _, ⟨v, w, e, h1, h2⟩ => ⟨v, w, e, hk u v h1, imAll_mono hk us w h2⟩
theorem own_mono (hk : ∀ u v, im G rs B u v H → im G rs' B' u v H') (ht : ∀ a xs, H a = some (.tup xs) → H' a = some (.tup xs)) : ∀ (s : Sh) (u : U) (v : V) (A : List Addr), (∀ a ∈ A, H' a = H a) → ownD G rs B s u v H A → ownD G rs' B' s u v H' A
  | .leaf, u, v, A, _, h => ⟨h.1, hk u v h.2⟩
  | .lst s, .lst us, v, A, k, ⟨a, vs, A', e1, e2, h, q⟩ => ⟨a, vs, A', e1, e2, by rw [k a (by rw [e2]; exact List.mem_cons_self)]; exact h,
      ownZ_mono (fun n u v A1 m p => own_mono hk ht s u v A1 (fun a z => k a (by rw [e2]; exact List.mem_cons_of_mem _ (m a z))) p) q⟩
  | .dct s, .dct ks us, v, A, k, ⟨a, vs, A', e1, e2, h, l, q⟩ => ⟨a, vs, A', e1, e2, by rw [k a (by rw [e2]; exact List.mem_cons_self)]; exact h, l,
      ownZ_mono (fun n u v A1 m p => own_mono hk ht s u v A1 (fun a z => k a (by rw [e2]; exact List.mem_cons_of_mem _ (m a z))) p) q⟩
  | .dct s, .dcT ks us, v, A, k, ⟨a, vs, A', e1, e2, h, l, q⟩ => ⟨a, vs, A', e1, e2, by rw [k a (by rw [e2]; exact List.mem_cons_self)]; exact h, l,
      ownZ_mono (fun n u v A1 m p => own_mono hk ht s u v A1 (fun a z => k a (by rw [e2]; exact List.mem_cons_of_mem _ (m a z))) p) q⟩
  | .dct s, .dcN ks us, v, A, k, ⟨a, kvs, A', e1, e2, h, l, q1, q⟩ => ⟨a, kvs, A', e1, e2, by rw [k a (by rw [e2]; exact List.mem_cons_self)]; exact h, l, imAll_mono hk ks _ q1,
      ownZ_mono (fun n u v A1 m p => own_mono hk ht s u v A1 (fun a z => k a (by rw [e2]; exact List.mem_cons_of_mem _ (m a z))) p) q⟩
  | .tup f, .tup us, v, A, k, ⟨a, vs, e1, h, q⟩ => ⟨a, vs, e1, ht _ _ h,
      ownZ_mono (fun n u v A1 m p => own_mono hk ht (f n) u v A1 (fun a z => k a (m a z)) p) q⟩
  | .obj f, .obj c ns us, v, A, k, ⟨a, dx, vs, A', e1, e2, h, l, q⟩ => ⟨a, dx, vs, A', e1, e2, by rw [k a (by rw [e2]; exact List.mem_cons_self)]; exact h, l,
      ownZ_mono (fun n u v A1 m p => own_mono hk ht (f (ns.getD n "")) u v A1 (fun a z => k a (by rw [e2]; exact List.mem_cons_of_mem _ (m a z))) p) q⟩
theorem ownZ_leaf {us : List U} {n : Nat} {vs : List V} {A : List Addr} {f : Nat → Sh} (hf : ∀ n, f n = .leaf) : ownZ (fun n => ownD G rs B (f n)) n us vs H A ↔ A = [] ∧ imAll G rs B us vs H := by
  induction us generalizing n vs A with
  | nil => exact ⟨fun h => ⟨h.2, h.1⟩, fun h => ⟨h.2, h.1⟩⟩
  | cons u us ih =>
    constructor
    · rintro ⟨v, r, A1, A2, e1, e2, h1, h2⟩
      rw [hf n] at h1
      obtain ⟨z, h1⟩ := h1
      obtain ⟨z2, h2⟩ := ih.mp h2
      exact ⟨by rw [e2, z, z2]; rfl, v, r, e1, h1, h2⟩
    · rintro ⟨e, v, r, e1, h1, h2⟩
      exact ⟨v, r, [], [], e1, e, by show ownD G rs B (f n) u v H []; rw [hf n]; exact ⟨rfl, h1⟩, ih.mpr ⟨rfl, h2⟩⟩
theorem own_lst {us : List U} {v : V} {A : List Addr} : ownD G rs B (.lst .leaf) (.lst us) v H A ↔ ∃ a vs, v = .ref a ∧ A = [a] ∧ H a = some (.lst vs) ∧ imAll G rs B us vs H := by
  constructor
  · rintro ⟨a, vs, A', e1, e2, h, q⟩
    obtain ⟨z, q⟩ := (ownZ_leaf (f := fun _ => .leaf) fun _ => rfl).mp q
    exact ⟨a, vs, e1, by rw [e2, z], h, q⟩
  · rintro ⟨a, vs, e1, e2, h, q⟩
    exact ⟨a, vs, [], e1, e2, h, (ownZ_leaf (f := fun _ => .leaf) fun _ => rfl).mpr ⟨rfl, q⟩⟩
theorem own_dct {ks : List Key} {us : List U} {v : V} {A : List Addr} : ownD G rs B (.dct .leaf) (.dct ks us) v H A ↔ ∃ a vs, v = .ref a ∧ A = [a] ∧ H a = some (.dK (ks.zip vs)) ∧ ks.length = us.length ∧ imAll G rs B us vs H := by
  constructor
  · rintro ⟨a, vs, A', e1, e2, h, l, q⟩
    obtain ⟨z, q⟩ := (ownZ_leaf (f := fun _ => .leaf) fun _ => rfl).mp q
    exact ⟨a, vs, e1, by rw [e2, z], h, l, q⟩
  · rintro ⟨a, vs, e1, e2, h, l, q⟩
    exact ⟨a, vs, [], e1, e2, h, l, (ownZ_leaf (f := fun _ => .leaf) fun _ => rfl).mpr ⟨rfl, q⟩⟩
theorem own_dcT {ks : List (List Key)} {us : List U} {v : V} {A : List Addr} : ownD G rs B (.dct .leaf) (.dcT ks us) v H A ↔ ∃ a vs, v = .ref a ∧ A = [a] ∧ H a = some (.dT (ks.zip vs)) ∧ ks.length = us.length ∧ imAll G rs B us vs H := by
  constructor
  · rintro ⟨a, vs, A', e1, e2, h, l, q⟩
    obtain ⟨z, q⟩ := (ownZ_leaf (f := fun _ => .leaf) fun _ => rfl).mp q
    exact ⟨a, vs, e1, by rw [e2, z], h, l, q⟩
  · rintro ⟨a, vs, e1, e2, h, l, q⟩
    exact ⟨a, vs, [], e1, e2, h, l, (ownZ_leaf (f := fun _ => .leaf) fun _ => rfl).mpr ⟨rfl, q⟩⟩
theorem own_dcN {ks us : List U} {v : V} {A : List Addr} : ownD G rs B (.dct .leaf) (.dcN ks us) v H A ↔ ∃ a kvs, v = .ref a ∧ A = [a] ∧ H a = some (DNo a kvs) ∧ nk8s ks = some (kvs.map (·.1)) ∧ imAll G rs B ks (nkA kvs) H ∧ imAll G rs B us (nkV kvs) H := by
  constructor
  · rintro ⟨a, vs, A', e1, e2, h, l, q1, q⟩
    obtain ⟨z, q⟩ := (ownZ_leaf (f := fun _ => .leaf) fun _ => rfl).mp q
    exact ⟨a, vs, e1, by rw [e2, z], h, l, q1, q⟩
  · rintro ⟨a, vs, e1, e2, h, l, q1, q⟩
    exact ⟨a, vs, [], e1, e2, h, l, q1, (ownZ_leaf (f := fun _ => .leaf) fun _ => rfl).mpr ⟨rfl, q⟩⟩
end
section
variable (G : Cxt) (rs : List Addr) (B : Bn)
mutual
def ownF : U → V → Hp → List Addr → Prop
  | .lst us, v, H, A => ∃ a vs A', v = .ref a ∧ A = a :: A' ∧ H a = some (.lst vs) ∧ ownFs us vs H A'
  | .dct ks us, v, H, A => ∃ a vs A', v = .ref a ∧ A = a :: A' ∧ H a = some (.dK (ks.zip vs)) ∧ ks.length = us.length ∧ ownFs us vs H A'
  | .dcT ks us, v, H, A => ∃ a vs A', v = .ref a ∧ A = a :: A' ∧ H a = some (.dT (ks.zip vs)) ∧ ks.length = us.length ∧ ownFs us vs H A'
  | .non, v, H, A => A = [] ∧ im G rs B .non v H
  | .bl b, v, H, A => A = [] ∧ im G rs B (.bl b) v H
  | .int i, v, H, A => A = [] ∧ im G rs B (.int i) v H
  | .str x, v, H, A => A = [] ∧ im G rs B (.str x) v H
  | .tup us, v, H, A => A = [] ∧ im G rs B (.tup us) v H
  | .obj c ns us, v, H, A => A = [] ∧ im G rs B (.obj c ns us) v H
  | .dcN ks us, v, H, A => A = [] ∧ im G rs B (.dcN ks us) v H
  | .top x, v, H, A => A = [] ∧ im G rs B (.top x) v H
  | .frl us, v, H, A => A = [] ∧ im G rs B (.frl us) v H
  | .loc i, v, H, A => A = [] ∧ im G rs B (.loc i) v H
  | .exc c, v, H, A => A = [] ∧ im G rs B (.exc c) v H
def ownFs : List U → List V → Hp → List Addr → Prop
  | [], vs, _, A => vs = [] ∧ A = []
  | u :: us, vs, H, A => ∃ v r A1 A2, vs = v :: r ∧ A = A1 ++ A2 ∧ ownF u v H A1 ∧ ownFs us r H A2
end
def ownC : U → V → Hp → List Addr → Prop
  | .obj c ns us, v, H, A => (∃ a dx vs A', v = .ref a ∧ A = a :: A' ∧ H a = some (.ins (G.at_ c) dx (ns.zip vs)) ∧ ns.length = us.length ∧ ownFs G rs B us vs H A')
  | u, v, H, A => ownF G rs B u v H A
end
section
variable {G : Cxt} {rs rs' : List Addr} {B B' : Bn} {H H' : Hp}
mutual
theorem ownF_mono (hk : ∀ u v, im G rs B u v H → im G rs' B' u v H') : ∀ (u : U) (v : V) (A : List Addr), (∀ a ∈ A, H' a = H a) → ownF G rs B u v H A → ownF G rs' B' u v H' A
  | .lst us, v, A, k, ⟨a, vs, A', e1, e2, h, q⟩ => ⟨a, vs, A', e1, e2, by rw [k a (by rw [e2]; exact List.mem_cons_self)]; exact h, ownFs_mono hk us vs A' (fun b m => k b (by rw [e2]; exact List.mem_cons_of_mem _ m)) q⟩
  | .dct ks us, v, A, k, ⟨a, vs, A', e1, e2, h, l, q⟩ => ⟨a, vs, A', e1, e2, by rw [k a (by rw [e2]; exact List.mem_cons_self)]; exact h, l, ownFs_mono hk us vs A' (fun b m => k b (by rw [e2]; exact List.mem_cons_of_mem _ m)) q⟩
  | .dcT ks us, v, A, k, ⟨a, vs, A', e1, e2, h, l, q⟩ => ⟨a, vs, A', e1, e2, by rw [k a (by rw [e2]; exact List.mem_cons_self)]; exact h, l, ownFs_mono hk us vs A' (fun b m => k b (by rw [e2]; exact List.mem_cons_of_mem _ m)) q⟩
  | .non, v, A, _, h => ⟨h.1, hk _ _ h.2⟩
  | .bl _, v, A, _, h => ⟨h.1, hk _ _ h.2⟩
  | .int _, v, A, _, h => ⟨h.1, hk _ _ h.2⟩
  | .str _, v, A, _, h => ⟨h.1, hk _ _ h.2⟩
  | .tup _, v, A, _, h => ⟨h.1, hk _ _ h.2⟩
  | .obj _ _ _, v, A, _, h => ⟨h.1, hk _ _ h.2⟩
  | .dcN _ _, v, A, _, h => ⟨h.1, hk _ _ h.2⟩
  | .top _, v, A, _, h => ⟨h.1, hk _ _ h.2⟩
  | .frl _, v, A, _, h => ⟨h.1, hk _ _ h.2⟩
  | .loc _, v, A, _, h => ⟨h.1, hk _ _ h.2⟩
  | .exc _, v, A, _, h => ⟨h.1, hk _ _ h.2⟩
theorem ownFs_mono (hk : ∀ u v, im G rs B u v H → im G rs' B' u v H') : ∀ (us : List U) (vs : List V) (A : List Addr), (∀ a ∈ A, H' a = H a) → ownFs G rs B us vs H A → ownFs G rs' B' us vs H' A
  | [], _, _, _, h => h
  | u :: us, _, A, k, ⟨v, r, A1, A2, e1, e2, h1, h2⟩ => ⟨v, r, A1, A2, e1, e2, ownF_mono hk u v A1 (fun a m => k a (by rw [e2]; exact List.mem_append_left _ m)) h1, ownFs_mono hk us r A2 (fun a m => k a (by rw [e2]; exact List.mem_append_right _ m)) h2⟩
end
theorem ownC_mono (hk : ∀ u v, im G rs B u v H → im G rs' B' u v H') : ∀ (u : U) (v : V) (A : List Addr), (∀ a ∈ A, H' a = H a) → ownC G rs B u v H A → ownC G rs' B' u v H' A
  | .obj c ns us, v, A, k, ⟨a, dx, vs, A', e1, e2, h, l, q⟩ => ⟨a, dx, vs, A', e1, e2, by rw [k a (by rw [e2]; exact List.mem_cons_self)]; exact h, l, ownFs_mono hk us vs A' (fun b m => k b (by rw [e2]; exact List.mem_cons_of_mem _ m)) q⟩
  | .lst us, v, A, k, h => ownF_mono hk (.lst us) v A k h
  | .dct ks us, v, A, k, h => ownF_mono hk (.dct ks us) v A k h
  | .dcT ks us, v, A, k, h => ownF_mono hk (.dcT ks us) v A k h
  | .dcN ks us, v, A, k, h => ownF_mono hk (.dcN ks us) v A k h
  | .non, v, A, k, h => ownF_mono hk .non v A k h
  | .bl b, v, A, k, h => ownF_mono hk (.bl b) v A k h
  | .int i, v, A, k, h => ownF_mono hk (.int i) v A k h
  | .str x, v, A, k, h => ownF_mono hk (.str x) v A k h
  | .tup us, v, A, k, h => ownF_mono hk (.tup us) v A k h
  | .top x, v, A, k, h => ownF_mono hk (.top x) v A k h
  | .frl us, v, A, k, h => ownF_mono hk (.frl us) v A k h
  | .loc i, v, A, k, h => ownF_mono hk (.loc i) v A k h
  | .exc i, v, A, k, h => ownF_mono hk (.exc i) v A k h
theorem ownFs_len : ∀ {us : List U} {vs : List V} {A : List Addr}, ownFs G rs B us vs H A → vs.length = us.length
  | [], _, _, h => by rw [h.1]; rfl
  | u :: us, _, _, ⟨v, r, A1, A2, e1, e2, h1, h2⟩ => by rw [e1, List.length_cons, List.length_cons, ownFs_len h2]
theorem ownFs_split : ∀ {us : List U} {j : Nat} {vs : List V} {A : List Addr} {u : U}, ownFs G rs B us vs H A → us[j]? = some u → ∃ v A1 A' A2, vs[j]? = some v ∧ A = A1 ++ (A' ++ A2) ∧ ownF G rs B u v H A' ∧
    ∀ (rs2 : List Addr) (B2 : Bn) H2 u2 A'2, (∀ u v, im G rs B u v H → im G rs2 B2 u v H2) → (∀ a, a ∈ A1 ∨ a ∈ A2 → H2 a = H a) → ownF G rs2 B2 u2 v H2 A'2 → ownFs G rs2 B2 (us.set j u2) vs H2 (A1 ++ (A'2 ++ A2))
  | [], _, _, _, _, _, e => by simp at e
  | x :: us, 0, _, _, u, ⟨v, r, A1, A2, e1, e2, h1, h2⟩, e => by
    simp at e; subst e e1 e2
    exact ⟨v, [], A1, A2, rfl, rfl, h1, fun rs2 B2 H2 u2 A'2 t k p => ⟨v, r, A'2, A2, rfl, rfl, p, ownFs_mono t us r A2 (fun a m => k a (.inr m)) h2⟩⟩
  | x :: us, j + 1, _, _, u, ⟨v, r, A1, A2, e1, e2, h1, h2⟩, e => by
    obtain ⟨v', B1, B', B2, f1, f2, f3, f4⟩ := ownFs_split (j := j) h2 (by simpa using e)
    subst e1 e2 f2
    refine ⟨v', A1 ++ B1, B', B2, by simpa using f1, by simp, f3, fun rs2 B2' H2 u2 A'2 t k p => ?_⟩
    exact ⟨v, r, A1, B1 ++ (A'2 ++ B2), rfl, by simp, ownF_mono t x v A1 (fun a m => k a (.inl (List.mem_append_left _ m))) h1, f4 rs2 B2' H2 u2 A'2 t (fun a z => k a (z.imp (fun z => List.mem_append_right _ z) id)) p⟩
end
end UX

set_option Elab.async false
set_option linter.all false
set_option maxRecDepth 100000
set_option maxHeartbeats 4000000
set_option autoImplicit false
namespace UX
open PySem PySem.Spec PyProof.Rows L2
open EL (Ex RB BOk Bn TK)
abbrev Sto := List U
inductive Res (α : Type) where
  | ok (a : α) | er (e : U)
def M (α : Type) := Sto → Option (Res α × Sto)
namespace M
def ret {α : Type} (a : α) : M α := fun st => some (.ok a, st)
def fail {α : Type} : M α := fun _ => none
def raise {α : Type} (e : U) : M α := fun st => some (.er e, st)
def bind {α β : Type} (w : M α) (f : α → M β) : M β := fun st => match w st with
  | some (.ok a, st') => f a st'
  | some (.er e, st') => some (.er e, st')
  | none => none
def o {α : Type} : Option α → M α
  | some a => ret a
  | none => fail
section
variable {α β γ : Type}
@[simp] theorem bind_ret (a : α) (f : α → M β) : bind (ret a) f = f a := rfl
@[simp] theorem bind_fail (f : α → M β) : bind fail f = fail := rfl
@[simp] theorem bind_bind (w : M α) (f : α → M β) (g : β → M γ) : bind (bind w f) g = bind w fun a => bind (f a) g := by
  funext st
  unfold bind
  cases w st with
  | none => rfl
  | some p =>
    obtain ⟨r, st'⟩ := p
    cases r <;> rfl
@[simp] theorem bind_ret' (w : M α) : bind w ret = w := by
  funext st
  unfold bind ret
  cases w st with
  | none => rfl
  | some p =>
    obtain ⟨r, st'⟩ := p
    cases r <;> rfl
@[simp] theorem o_some (a : α) : o (some a) = ret a := rfl
@[simp] theorem o_none : o (none : Option α) = fail := rfl
theorem bind_inv {w : M α} {f : α → M β} {st st' : Sto} {b : β} (h : bind w f st = some (.ok b, st')) : ∃ a st1, w st = some (.ok a, st1) ∧ f a st1 = some (.ok b, st') := by
  unfold bind at h
  cases e : w st with
  | none => rw [e] at h; cases h
  | some p =>
    obtain ⟨r, st1⟩ := p
    rw [e] at h
    cases r with
    | ok a => exact ⟨a, st1, rfl, h⟩
    | er _ => cases h
theorem o_inv {x : Option α} {b : α} {st st' : Sto} (h : o x st = some (.ok b, st')) : x = some b ∧ st' = st := by
  cases x with
  | none => cases h
  | some a => cases h; exact ⟨rfl, rfl⟩
end
end M
abbrev SA := List (Addr × List Addr)
def fl (as : SA) : List Addr := (as.map (·.2)).flatten
def rts (as : SA) : List Addr := as.map (·.1)
structure Go (as as' : SA) (H H' : Hp) : Prop where
  rb : RB (· ∈ fl as) H H'
  pre : ∀ (i : Nat) (a : Addr), (rts as)[i]? = some a → (rts as')[i]? = some a
  new : ∀ a ∈ fl as', a ∈ fl as ∨ H a = none
theorem rb_alive {B : Bn} {H H' : Hp} (r : RB B H H') {a : Addr} (h : H a ≠ none) : H' a ≠ none := by
  rcases Classical.em (B a) with b | b
  · exact r.ban a b h
  · cases e : H a with
    | none => exact absurd e h
    | some o => rw [r.keep a o b e]; exact fun z => nomatch z
theorem Go.refl (as : SA) (H : Hp) : Go as as H H := ⟨RB.refl H, fun _ _ h => h, fun _ h => .inl h⟩
theorem Go.trans {as as1 as2 : SA} {H H1 H2 : Hp} (a : Go as as1 H H1) (b : Go as1 as2 H1 H2) : Go as as2 H H2 := by
  refine ⟨⟨fun x o n h => ?_, fun x xs h => b.rb.tup _ _ (a.rb.tup _ _ h), fun x o u h => b.rb.frz _ _ _ (a.rb.frz _ _ _ h), fun x _ h => rb_alive b.rb (rb_alive a.rb h)⟩, fun i x h => b.pre i x (a.pre i x h), fun x h => ?_⟩
  · refine b.rb.keep x o (fun m => ?_) (a.rb.keep x o n h)
    rcases a.new x m with z | z
    · exact n z
    · rw [h] at z; cases z
  · rcases b.new x h with z | z
    · exact a.new x z
    · rcases Classical.em (H x = none) with q | q
      · exact .inr q
      · exact absurd z (rb_alive a.rb q)
theorem Go.of_ex {as : SA} {H H' : Hp} (e : Ex H H') : Go as as H H' := ⟨RB.of_ex e, fun _ _ h => h, fun _ h => .inl h⟩
theorem Go.alive {as as' : SA} {H H' : Hp} (g : Go as as' H H') {a : Addr} (h : H a ≠ none) : H' a ≠ none := rb_alive g.rb h
theorem Go.fresh {as as' : SA} {H H' : Hp} (g : Go as as' H H') {a : Addr} (h : H' a = none) : H a = none := by
  rcases Classical.em (H a = none) with q | q
  · exact q
  · exact absurd h (g.alive q)
structure Fr where
  G : Cxt
  B : Bn
  H0 : Hp
  as0 : SA
  R : SA → Sto → Hp → U → V → Prop
def noR : SA → Sto → Hp → U → V → Prop := fun _ _ _ _ _ => True
abbrev Os := List (Nat × List Addr)
def flo (os : Os) : List Addr := (os.map (·.2)).flatten
def ban (F : Fr) (os : Os) (as : SA) : Bn := fun a => F.B a ∨ a ∈ flo os ∨ a ∈ fl as
inductive SV where
  | im (u : U)
  | own (s : Sh) (u : U)
  | raw (v : V)
abbrev Dl := List (Option SV)
def SVok (F : Fr) (os : Os) (as : SA) (i : Nat) : SV → V → Hp → Prop
  | .im u, v, H => im F.G (rts as) (ban F os as) u v H
  | .own s u, v, H => ∃ A, (i, A) ∈ os ∧ ownD F.G (rts as) (ban F os as) s u v H A
  | .raw x, v, _ => v = x
def StOk (G : Cxt) (B : Bn) (rs : List Addr) : SA → Sto → Hp → Prop
  | [], [], _ => True
  | p :: as, u :: st, H => ownC G rs B u (.ref p.1) H p.2 ∧ StOk G B rs as st H
  | _, _, _ => False
structure SDo (F : Fr) (os : Os) (as : SA) (st : Sto) (γ : List (U × V)) (H : Hp) (σ : L2.St) (δ : Dl) : Prop where
  gh : ∀ p ∈ γ, im F.G (rts as) (ban F os as) p.1 p.2 H
  rel : Go F.as0 as F.H0 H
  ok : BOk (ban F os as) H
  nd : (flo os ++ fl as).Nodup
  ix : (os.map (·.1)).Nodup
  new : ∀ a ∈ flo os, F.H0 a = none
  nb : ∀ a, a ∈ flo os ∨ a ∈ fl as → ¬ F.B a
  sto : StOk F.G (ban F os as) (rts as) as st H
  len : σ.length = δ.length
  at_ : ∀ i s, δ[i]? = some (some s) → ∃ v, σ[i]? = some (some v) ∧ SVok F os as i s v H
section
variable {F : Fr} {os : Os} {as as' : SA} {st : Sto} {γ : List (U × V)} {H H' : Hp} {σ : L2.St} {δ : Dl} {v : V} {u : U} {i : Nat}
theorem mem_flo {i : Nat} {A : List Addr} (m : (i, A) ∈ os) {a : Addr} (h : a ∈ A) : a ∈ flo os := List.mem_flatten.mpr ⟨A, List.mem_map_of_mem (f := (·.2)) m, h⟩
theorem mem_fl {p : Addr × List Addr} (m : p ∈ as) {a : Addr} (h : a ∈ p.2) : a ∈ fl as := List.mem_flatten.mpr ⟨p.2, List.mem_map_of_mem (f := (·.2)) m, h⟩
theorem im_go (g : Go as as' H H') {u : U} {v : V} (h : im F.G (rts as) (ban F os as) u v H) : im F.G (rts as') (ban F os as') u v H' := by
  have h1 : im F.G (rts as) (UX.ban F os as') u v H := im_sub (fun a n b => by
    rcases b with b | b | b
    · exact .inl b
    · exact .inr (.inl b)
    · rcases g.new a b with z | z
      · exact .inr (.inr z)
      · exact absurd z n) _ _ h
  have h2 := im_rs g.pre _ _ h1
  have h3 : im F.G (rts as') (fun a => UX.ban F os as' a ∨ a ∈ fl as) u v H := im_sub (B := UX.ban F os as) (fun a n b => by
    rcases b with (b | b | b) | b
    · exact .inl b
    · exact .inr (.inl b)
    · rcases g.new a b with z | z
      · exact .inr (.inr z)
      · exact absurd z n
    · exact .inr (.inr b)) _ _ (im_rs g.pre _ _ h)
  have h4 := im_st (g.rb.sub fun a m => Or.inr m) _ _ h3
  exact im_sub (fun a _ b => .inl b) _ _ h4
theorem imAll_go (g : Go as as' H H') : ∀ {us : List U} {vs : List V}, imAll F.G (rts as) (ban F os as) us vs H → imAll F.G (rts as') (ban F os as') us vs H'
  | [], _, h => h
  | u :: us, _, ⟨v, w, e, h1, h2⟩ => ⟨v, w, e, im_go g h1, imAll_go g h2⟩
theorem sqT_go (g : Go as as' H H') {a : Addr} {xs : List V} (h : H a = some (.tup xs)) : H' a = some (.tup xs) := g.rb.tup _ _ h
theorem own_go (g : Go as as' H H') {s : Sh} {u : U} {v : V} {A : List Addr} (h : ownD F.G (rts as) (ban F os as) s u v H A) (k : ∀ a ∈ A, a ∉ fl as) (al : ∀ a ∈ A, H a ≠ none) : ownD F.G (rts as') (ban F os as') s u v H' A :=
  own_mono (fun _ _ h => im_go g h) (fun _ _ h => sqT_go g h) s u v A (fun a m => by
    cases e : H a with
    | none => exact absurd e (al a m)
    | some o => exact g.rb.keep a o (k a m) e) h
theorem SVok.go (g : Go as as' H H') (nd : (flo os ++ fl as).Nodup) (ok : BOk (ban F os as) H) : ∀ {s : SV}, SVok F os as i s v H → SVok F os as' i s v H'
  | .im u, h => im_go g h
  | .own s u, ⟨A, m, h⟩ => ⟨A, m, own_go g h (fun a z => fun q => (List.nodup_append.mp nd).2.2 a (mem_flo m z) a q rfl) fun a z => ok a (.inr (.inl (mem_flo m z)))⟩
  | .raw x, h => h
theorem SDo.go {st' : Sto} (s : SDo F os as st γ H σ δ) (g : Go as as' H H') (nd' : (fl as').Nodup) (sto' : StOk F.G (ban F os as') (rts as') as' st' H') (al : ∀ a ∈ fl as', H' a ≠ none) : SDo F os as' st' γ H' σ δ := by
  have dis : ∀ a ∈ flo os, a ∉ fl as' := fun a m q => by
    rcases g.new a q with z | z
    · exact (List.nodup_append.mp s.nd).2.2 a m a z rfl
    · exact s.ok a (.inr (.inl m)) z
  refine ⟨fun p m => im_go g (s.gh p m), s.rel.trans g, fun a b => ?_, List.nodup_append.mpr ⟨(List.nodup_append.mp s.nd).1, nd', fun a m b q e => dis a m (e ▸ q)⟩, s.ix, s.new, fun a z => ?_, sto', s.len, fun i x e => ?_⟩
  · rcases b with b | b | b
    · exact g.alive (s.ok a (.inl b))
    · exact g.alive (s.ok a (.inr (.inl b)))
    · exact al a b
  · rcases z with z | z
    · exact s.nb a (.inl z)
    · rcases g.new a z with q | q
      · exact s.nb a (.inr q)
      · exact fun b => s.ok a (.inl b) q
  · obtain ⟨v, h1, h2⟩ := s.at_ i x e
    exact ⟨v, h1, h2.go g s.nd s.ok⟩
theorem StOk.mono {G : Cxt} {B B' : Bn} {rs rs' : List Addr} (hk : ∀ u v, im G rs B u v H → im G rs' B' u v H') (ht : ∀ a xs, H a = some (.tup xs) → H' a = some (.tup xs)) : ∀ {as : SA} {st : Sto}, (∀ a ∈ fl as, H' a = H a) → StOk G B rs as st H → StOk G B' rs' as st H'
  | [], [], _, _ => trivial
  | p :: as, s :: st, k, ⟨h1, h2⟩ => ⟨ownC_mono hk _ _ _ (fun a m => k a (mem_fl (as := p :: as) List.mem_cons_self m)) h1, StOk.mono hk ht (fun a m => k a (List.mem_append_right _ m)) h2⟩
theorem StOk.len {G : Cxt} {B : Bn} {rs : List Addr} : ∀ {as : SA} {st : Sto}, StOk G B rs as st H → as.length = st.length
  | [], [], _ => rfl
  | _ :: _, _ :: _, h => by rw [List.length_cons, List.length_cons, StOk.len h.2]
theorem SDo.ex (s : SDo F os as st γ H σ δ) (e : Ex H H') : SDo F os as st γ H' σ δ :=
  s.go (Go.of_ex e) (List.nodup_append.mp s.nd).2.1 (StOk.mono (fun _ _ h => im_st (RB.of_ex e) _ _ h) (fun _ _ h => e _ _ h) (fun a m => by
    cases q : H a with
    | none => exact absurd q (s.ok a (.inr (.inr m)))
    | some o => exact e a o q) s.sto) fun a m => (Go.of_ex (as := as) e).alive (s.ok a (.inr (.inr m)))
theorem SDo.notban {p : Addr} (s : SDo F os as st γ H σ δ) (h : H p = none) : ¬ ban F os as p := fun b => s.ok p b h
theorem SDo.get (s : SDo F os as st γ H σ δ) {x : SV} (e : δ[i]? = some (some x)) : ∃ v, σ[i]? = some (some v) ∧ SVok F os as i x v H := s.at_ i x e
theorem getElem?_lt {α : Type} {l : List α} {x : α} (e : l[i]? = some x) : i < l.length := by
  rcases Nat.lt_or_ge i l.length with z | z
  · exact z
  · rw [List.getElem?_eq_none z] at e; cases e
theorem SDo.set (s : SDo F os as st γ H σ δ) {x : SV} (h : SVok F os as i x v H) : SDo F os as st γ H (σ.set i (some v)) (δ.set i (some x)) := by
  refine ⟨s.gh, s.rel, s.ok, s.nd, s.ix, s.new, s.nb, s.sto, by rw [List.length_set, List.length_set, s.len], fun j q e => ?_⟩
  by_cases hj : i = j
  · subst hj
    have hl : i < δ.length := by have := getElem?_lt e; rwa [List.length_set] at this
    rw [List.getElem?_set_self hl] at e
    cases e
    exact ⟨v, List.getElem?_set_self (by rw [s.len]; exact hl), h⟩
  · rw [List.getElem?_set_ne hj] at e
    obtain ⟨w, h1, h2⟩ := s.at_ j q e
    exact ⟨w, by rw [List.getElem?_set_ne hj]; exact h1, h2⟩
theorem SDo.unset (s : SDo F os as st γ H σ δ) {o : Option V} : SDo F os as st γ H (σ.set i o) (δ.set i none) := by
  refine ⟨s.gh, s.rel, s.ok, s.nd, s.ix, s.new, s.nb, s.sto, by rw [List.length_set, List.length_set, s.len], fun j q e => ?_⟩
  by_cases hj : i = j
  · subst hj
    have hl : i < δ.length := by have := getElem?_lt e; rwa [List.length_set] at this
    rw [List.getElem?_set_self hl] at e
    cases e
  · rw [List.getElem?_set_ne hj] at e
    obtain ⟨w, h1, h2⟩ := s.at_ j q e
    exact ⟨w, by rw [List.getElem?_set_ne hj]; exact h1, h2⟩
def Weak : Dl → Dl → Prop
  | [], [] => True
  | _ :: a, none :: b => Weak a b
  | x :: a, y :: b => x = y ∧ Weak a b
  | _, _ => False
theorem Weak.len : ∀ {a b : Dl}, Weak a b → a.length = b.length
  | [], [], _ => rfl
  | _ :: a, none :: b, h => by rw [List.length_cons, List.length_cons, Weak.len (a := a) (b := b) h]
  | _ :: a, some _ :: b, h => by rw [List.length_cons, List.length_cons, Weak.len (a := a) (b := b) h.2]
  | [], _ :: _, h => h.elim
  | _ :: _, [], h => by cases h
theorem Weak.get : ∀ {a b : Dl} {i : Nat} {p : SV}, Weak a b → b[i]? = some (some p) → a[i]? = some (some p)
  | [], [], _, _, _, e => by simp at e
  | x :: a, none :: b, 0, p, _, e => by simp at e
  | x :: a, none :: b, i + 1, p, h, e => by
    have := Weak.get (a := a) (b := b) (i := i) (p := p) h (by simpa using e)
    simpa using this
  | x :: a, some y :: b, 0, p, h, e => by
    have e1 : y = p := by simpa using e
    rw [show x = some y from h.1, e1]; rfl
  | x :: a, some y :: b, i + 1, p, h, e => by
    have := Weak.get (a := a) (b := b) (i := i) (p := p) h.2 (by simpa using e)
    simpa using this
  | [], _ :: _, _, _, h, _ => h.elim
  | _ :: _, [], _, _, h, _ => by cases h
theorem SDo.weak {δ' : Dl} (s : SDo F os as st γ H σ δ) (w : Weak δ δ') : SDo F os as st γ H σ δ' := ⟨s.gh, s.rel, s.ok, s.nd, s.ix, s.new, s.nb, s.sto, s.len.trans w.len, fun i p e => s.at_ i p (w.get e)⟩
def rd (F : Fr) (os : Os) (as : SA) : U → V → Hp → Prop
  | .lst us, v, H => ∃ a vs, v = .ref a ∧ ¬ ban F [] as a ∧ H a = some (.lst vs) ∧ imAll F.G (rts as) (ban F os as) us vs H
  | .dct ks us, v, H => ∃ a vs, v = .ref a ∧ ¬ ban F [] as a ∧ Rd H a (.dK (ks.zip vs)) ∧ ks.length = us.length ∧ imAll F.G (rts as) (ban F os as) us vs H
  | .dcT ks us, v, H => ∃ a vs, v = .ref a ∧ ¬ ban F [] as a ∧ Rd H a (.dT (ks.zip vs)) ∧ ks.length = us.length ∧ imAll F.G (rts as) (ban F os as) us vs H
  | .dcN ks us, v, H => ∃ a kvs, v = .ref a ∧ ¬ ban F [] as a ∧ Rd H a (DNo a kvs) ∧ nk8s ks = some (kvs.map (·.1)) ∧ imAll F.G (rts as) (ban F os as) ks (nkA kvs) H ∧ imAll F.G (rts as) (ban F os as) us (nkV kvs) H
  | .obj c ns us, v, H => ∃ a dx vs, v = .ref a ∧ ¬ ban F [] as a ∧ H a = some (.ins (F.G.at_ c) dx (ns.zip vs)) ∧ ns.length = us.length ∧ imAll F.G (rts as) (ban F os as) us vs H
  | u, v, H => im F.G (rts as) (ban F os as) u v H
theorem ban_nil {a : Addr} (n : ¬ ban F os as a) : ¬ ban F [] as a := fun b => n (b.elim .inl fun b => b.elim (fun z => nomatch z) fun z => .inr (.inr z))
theorem rd_of_im : ∀ {u : U}, im F.G (rts as) (ban F os as) u v H → rd F os as u v H
  | .non, h | .bl _, h | .int _, h | .str _, h | .tup _, h | .top _, h | .frl _, h | .loc _, h | .exc _, h => h
  | .lst us, ⟨a, vs, e, n, h⟩ => ⟨a, vs, e, ban_nil n, h⟩
  | .dct ks us, ⟨a, vs, e, n, h⟩ => ⟨a, vs, e, ban_nil n, h⟩
  | .dcT ks us, ⟨a, vs, e, n, h⟩ => ⟨a, vs, e, ban_nil n, h⟩
  | .dcN ks us, ⟨a, vs, e, n, h⟩ => ⟨a, vs, e, ban_nil n, h⟩
  | .obj c ns us, ⟨a, dx, vs, e, n, h⟩ => ⟨a, dx, vs, e, ban_nil n, h⟩
abbrev noB : Bn := fun _ => False
theorem sub0 {B : Bn} {G : Cxt} {rs : List Addr} {u : U} (h : im G rs B u v H) : im G rs noB u v H := im_sub (B := B) (fun _ _ (z : False) => False.elim z) u v h
theorem imAll_none {G : Cxt} {rs : List Addr} {B : Bn} {us : List U} {vs : List V} (h : imAll G rs B us vs H) : imAll G rs noB us vs H := imAll_sub (B := B) (fun _ _ (z : False) => False.elim z) us vs h
theorem rd_im0 : ∀ {u : U}, rd F os as u v H → im F.G (rts as) noB u v H
  | .non, h | .bl _, h | .int _, h | .str _, h | .tup _, h | .top _, h | .frl _, h | .loc _, h | .exc _, h => sub0 (B := ban F os as) h
  | .lst us, ⟨a, vs, e, _, h, q⟩ => ⟨a, vs, e, fun z => z, h, imAll_none q⟩
  | .dct ks us, ⟨a, vs, e, _, h, l, q⟩ => ⟨a, vs, e, fun z => z, h, l, imAll_none q⟩
  | .dcT ks us, ⟨a, vs, e, _, h, l, q⟩ => ⟨a, vs, e, fun z => z, h, l, imAll_none q⟩
  | .dcN ks us, ⟨a, vs, e, _, h, l, q1, q⟩ => ⟨a, vs, e, fun z => z, h, l, imAll_none q1, imAll_none q⟩
  | .obj c ns us, ⟨a, dx, vs, e, _, h, l, q⟩ => ⟨a, dx, vs, e, fun z => z, h, l, imAll_none q⟩
theorem rd_dp {d : PyData} (h : rd F os as u v H) (e : pd u = some d) : Dp F.G.K H v d := im_dp _ _ _ (rd_im0 h) e
theorem Go.off (g : Go as as' H H') {a : Addr} (n : ¬ ban F [] as a) (h : H a ≠ none) : ¬ ban F [] as' a := fun m => by
  rcases m with z | z | z
  · exact n (.inl z)
  · cases z
  · rcases g.new a z with z | z
    · exact n (.inr (.inr z))
    · exact h z
theorem nfl {a : Addr} (n : ¬ ban F [] as a) : a ∉ fl as := fun m => n (.inr (.inr m))
theorem rd_go (g : Go as as' H H') : ∀ {u : U}, rd F os as u v H → rd F os as' u v H'
  | .non, h | .bl _, h | .int _, h | .str _, h | .tup _, h | .top _, h | .frl _, h | .loc _, h | .exc _, h => im_go (F := F) (os := os) g h
  | .lst us, ⟨a, vs, e, n, h, q⟩ => ⟨a, vs, e, g.off n (by rw [h]; exact fun z => nomatch z), g.rb.keep _ _ (nfl n) h, imAll_go g q⟩
  | .dct ks us, ⟨a, vs, e, n, h, l, q⟩ => ⟨a, vs, e, g.off n (rd_ne h), (kd_of g.rb).dK _ _ (nfl n) h, l, imAll_go g q⟩
  | .dcT ks us, ⟨a, vs, e, n, h, l, q⟩ => ⟨a, vs, e, g.off n (rd_ne h), (kd_of g.rb).dT _ _ (nfl n) h, l, imAll_go g q⟩
  | .dcN ks us, ⟨a, vs, e, n, h, l, q1, q⟩ => ⟨a, vs, e, g.off n (rd_ne h), (kd_of g.rb).dN _ _ _ (nfl n) h, l, imAll_go g q1, imAll_go g q⟩
  | .obj c ns us, ⟨a, dx, vs, e, n, h, l, q⟩ => ⟨a, dx, vs, e, g.off n (by rw [h]; exact fun z => nomatch z), g.rb.keep _ _ (nfl n) h, l, imAll_go g q⟩
end
section
variable (F : Fr)
abbrev PP (α : Type) := Os → SA → Hp → α → V → Hp → Prop
def EvP {α : Type} (P : PP α) (te : TE) (δ : Dl) (w : M α) : Prop := ∀ os as st γ σ H a st', SDo F os as st γ H σ δ → w st = some (.ok a, st') → ∀ QQ : VK, (∀ v H' as', Go as as' H H' → SDo F os as' st' γ H' σ δ → P os as' H a v H' → QQ v H') → te σ H QQ
def EvW : TE → Dl → M U → Prop := EvP F fun os as _ u v H => im F.G (rts as) (ban F os as) u v H
def EvR : TE → Dl → M U → Prop := EvP F fun os as _ u v H => rd F os as u v H
def EvN (s : Sh) (te : TE) (δ : Dl) (w : M U) : Prop := ∀ os as st γ σ H a st', SDo F os as st γ H σ δ → w st = some (.ok a, st') → ∀ QQ : VK, (∀ v H' as' A, Go as as' H H' → (∀ k, k ∉ os.map (·.1) → SDo F ((k, A) :: os) as' st' γ H' σ δ) → ownD F.G (rts as') (ban F ((0, A) :: os) as') s a v H' A → (∀ a ∈ A, H a = none) → QQ v H') → te σ H QQ
def EvT (tt : TT) (δ : Dl) (w : M Bool) : Prop := ∀ os as st γ σ H a st', SDo F os as st γ H σ δ → w st = some (.ok a, st') → ∀ QQ : Bool → Hp → Prop, (∀ H' as', Go as as' H H' → SDo F os as' st' γ H' σ δ → QQ a H') → tt σ H QQ
def EvO (to : TO) (δ : Dl) (w : M (Option Int)) : Prop := ∀ os as st γ σ H a st', SDo F os as st γ H σ δ → w st = some (.ok a, st') → ∀ QQ : Option Int → Hp → Prop, (∀ H' as', Go as as' H H' → SDo F os as' st' γ H' σ δ → QQ a H') → to σ H QQ
def EvA (P : Os → SA → List U → List V → Hp → Prop) (ta : TA) (δ : Dl) (w : M (List U)) : Prop := ∀ os as st γ σ H us st', SDo F os as st γ H σ δ → w st = some (.ok us, st') → ∀ QQ : List V → Hp → Prop, (∀ vs H' as', Go as as' H H' → SDo F os as' st' γ H' σ δ → P os as' us vs H' → QQ vs H') → ta σ H QQ
def EvAW : TA → Dl → M (List U) → Prop := EvA F fun os as us vs H => imAll F.G (rts as) (ban F os as) us vs H
end
inductive Out (S L : Type) where
  | nx (s : S) | rt (u : U) | bk (l : L) | ct (l : L)
structure Rt (F : Fr) (as : SA) (st : Sto) (H : Hp) (u : U) (v : V) : Prop where
  rel : Go F.as0 as F.H0 H
  ok : BOk (ban F [] as) H
  nd : (fl as).Nodup
  nb : ∀ a ∈ fl as, ¬ F.B a
  sto : StOk F.G (ban F [] as) (rts as) as st H
  im : im F.G (rts as) (ban F [] as) u v H
  r : F.R as st H u v
def Post (F : Fr) {S L : Type} (D : Ends) (γ : List (U × V)) (st : Sto) (δn : S → Dl) (δl : L → Dl) : Out S L → Prop
  | .nx s => ∀ os as σ H, SDo F os as st γ H σ (δn s) → D.nx σ H
  | .rt u => ∀ as v H, Rt F as st H u v → D.rt v H
  | .bk l => ∀ os as σ H, SDo F os as st γ H σ (δl l) → D.bk σ H
  | .ct l => ∀ os as σ H, SDo F os as st γ H σ (δl l) → D.ct σ H
def Blk (F : Fr) {S L : Type} (t : TS) (δ : Dl) (w : M (Out S L)) (δn : S → Dl) (δl : L → Dl) : Prop := ∀ D os as st γ σ H o st', SDo F os as st γ H σ δ → w st = some (.ok o, st') → Post F D γ st' δn δl o → t D σ H
end UX

set_option Elab.async false
set_option linter.all false
set_option maxRecDepth 100000
set_option maxHeartbeats 4000000
set_option autoImplicit false
namespace UX
open PySem PySem.Spec PyProof.Rows L2
open EL (Ex RB BOk Bn TK rAddU rMulU rSlU rEqU rNeU rLtU rLenQ rTupQ rListQ rReprD cut)
def addU : U → U → Option U
  | .int i, .int j => some (.int (i + j))
  | .tup a, .tup b => if a.length + b.length ≤ sizeLine then some (.tup (a ++ b)) else none
  | .lst a, .lst b => if a.length + b.length ≤ sizeLine then some (.lst (a ++ b)) else none
  | .str a, .str b => if a.length + b.length ≤ sizeLine then some (.str (a ++ b)) else none
  | _, _ => none
def subU : U → U → Option U
  | .int i, .int j => some (.int (i - j))
  | _, _ => none
instance (i j : Int) : Decidable (CMul i j) := by unfold CMul; infer_instance
instance (i j : Int) : Decidable (CDivN i j) := by unfold CDivN; infer_instance
instance (i j : Int) : Decidable (CPow i j) := by unfold CPow; infer_instance
def mulU : U → U → Option U
  | .int i, .int j => if CMul i j then some (.int (i * j)) else none
  | .tup a, .int k => if 0 ≤ k ∧ k ≤ 1000 ∧ a.length ≤ 1000 then some (.tup (List.replicate k.toNat a).flatten) else none
  | .lst a, .int k => if 0 ≤ k ∧ k ≤ 1000000 ∧ a.length * k.toNat ≤ sizeLine then some (.lst (List.replicate k.toNat a).flatten) else none
  | _, _ => none
def modU : U → U → Option U
  | .int i, .int j => if j ≠ 0 then some (.int (i.fmod j)) else none
  | _, _ => none
def fdivU : U → U → Option U
  | .int i, .int j => if CDivN i j then some (.int (i.fdiv j)) else none
  | _, _ => none
def powU : U → U → Option U
  | .int i, .int j => if CPow i j then some (.int (i ^ j.toNat)) else none
  | _, _ => none
def negU : U → Option U
  | .int i => some (.int (-i))
  | _ => none
def leU : U → U → Option U
  | .int i, .int j => some (.bl (decide (i ≤ j)))
  | _, _ => none
def gtU : U → U → Option U
  | .int i, .int j => some (.bl (decide (j < i)))
  | _, _ => none
def geU : U → U → Option U
  | .int i, .int j => some (.bl (decide (j ≤ i)))
  | _, _ => none
def notNone : PyData → Bool
  | .none => false
  | _ => true
theorem notNone_ne {d : PyData} (h : notNone d = true) : d ≠ .none := fun e => by rw [e] at h; cases h
def ltU : U → U → Option U
  | .int i, .int j => some (.bl (decide (i < j)))
  | a, b => match pd a, pd b with
    | some d, some e => if PySem.W.alike d e = true ∧ notNone d = true ∧ d.depth ≤ 64 then some (.bl (PySem.W.dataLt d e)) else none
    | _, _ => none
def eqD (a b : U) : Option U := match pd a, pd b with
  | some d, some e => if SeqAt.shaped d = true ∧ SeqAt.shaped e = true then some (.bl (PyData.eqv d e)) else none
  | _, _ => none
def neD (a b : U) : Option U := match pd a, pd b with
  | some d, some e => if SeqAt.shaped d = true ∧ SeqAt.shaped e = true then some (.bl (!PyData.eqv d e)) else none
  | _, _ => none
def eqU : U → U → Option U
  | .str x, .str y => some (.bl (decide (x = y)))
  | a, b => eqD a b
def neU : U → U → Option U
  | .str x, .str y => some (.bl (!decide (x = y)))
  | a, b => neD a b
def isNU : U → Bool
  | .non => true
  | _ => false
def ixU : U → U → Option U
  | .lst us, .int i => atI us i
  | .tup us, .int i => atI us i
  | .frl us, .int i => atI us i
  | _, _ => none
def slU : U → Option Int → Option Int → Option U
  | .lst us, lo, hi => some (.lst (cut us lo hi))
  | .tup us, lo, hi => some (.tup (cut us lo hi))
  | .frl us, lo, hi => some (.lst (cut us lo hi))
  | _, _, _ => none
def lenU : U → Option U
  | .lst us => some (.int us.length)
  | .tup us => some (.int us.length)
  | .frl us => some (.int us.length)
  | _ => none
def tupleU : U → Option U
  | .lst us => some (.tup us)
  | .tup us => some (.tup us)
  | _ => none
def listU : U → Option U
  | .lst us => some (.lst us)
  | .tup us => some (.lst us)
  | _ => none
def boolsU : List U → Option (List Bool)
  | [] => some []
  | .bl b :: r => (boolsU r).map (b :: ·)
  | _ => none
def allU : U → Option U
  | .lst us => (boolsU us).map fun bs => .bl (bs.all id)
  | _ => none
def anyU : U → Option U
  | .lst us => (boolsU us).map fun bs => .bl (bs.any id)
  | _ => none
def tyU : U → Option String
  | .non => some "NoneType"
  | .bl _ => some "bool"
  | .int _ => some "int"
  | .str _ => some "str"
  | .tup _ => some "tuple"
  | .lst _ => some "list"
  | .dct _ _ => some "dict"
  | _ => none
def subT (a b : String) : Bool := a == b || (a == "bool" && b == "int")
def isiU (u : U) (T : String) : Option U := match tyU u with
  | some t => if ["int", "bool", "str", "tuple", "list", "dict"].contains T then some (.bl (subT t T)) else none
  | none => none
theorem kit_all : (["NoneType", "bool", "int", "str", "tuple", "list", "dict"].all fun a => ["int", "bool", "str", "tuple", "list", "dict"].all fun b => kitB a b == some (subT a b)) = true := by decide +kernel
theorem kit_is {u : U} {t T : String} (h : tyU u = some t) (hT : ["int", "bool", "str", "tuple", "list", "dict"].contains T = true) : kitB t T = some (subT t T) := by
  have h1 : t ∈ ["NoneType", "bool", "int", "str", "tuple", "list", "dict"] := by
    cases u <;> simp [tyU] at h <;> subst h <;> decide
  have h2 := List.all_eq_true.mp (List.all_eq_true.mp kit_all t h1) T (by simpa using hT)
  simpa using h2
def reprU (u : U) : Option U := match pd u with
  | some d => if d.showable = true ∧ d.hasDict = false ∧ d.depth ≤ 64 ∧ d.shown.length ≤ sizeLine then some (.str d.shown) else none
  | none => none
def notU : U → Option U
  | .bl b => some (.bl (!b))
  | _ => none
def boolU : U → Option Bool
  | .bl b => some b
  | _ => none
def intU : U → Option Int
  | .int i => some i
  | _ => none
section
variable {F : Fr}
def OpOk (F : Fr) (r : R2) (f : U → U → Option U) : Prop := ∀ os as H a b c x y, BOk (ban F os as) H → rd F os as a x H → rd F os as b y H → f a b = some c → ∀ QQ : VK, (∀ v H', Ex H H' → im F.G (rts as) (ban F os as) c v H' → QQ v H') → r x y H QQ
def Op1Ok (F : Fr) (r : List V → Hp → VK → Prop) (f : U → Option U) : Prop := ∀ os as H a c x, BOk (ban F os as) H → rd F os as a x H → f a = some c → ∀ QQ : VK, (∀ v H', Ex H H' → im F.G (rts as) (ban F os as) c v H' → QQ v H') → r [x] H QQ
theorem op_I0 {g : Int → Int → V} {f : U → U → Option U} (hf : ∀ a b c, f a b = some c → ∃ i j, a = .int i ∧ b = .int j ∧ ∀ os as H, im F.G (rts as) (ban F os as) c (g i j) H) : OpOk F (rI0 g) f := fun os as H a b c x y ok ha hb e QQ k => by
  obtain ⟨i, j, rfl, rfl, h⟩ := hf a b c e
  exact ⟨i, j, ha, hb, k _ H (Ex.refl H) (h os as H)⟩
theorem ok_sub : OpOk F (rI0 fun i j => .int (i - j)) subU := op_I0 fun a b c e => by
  cases a <;> cases b <;> simp [subU] at e
  subst e; exact ⟨_, _, rfl, rfl, fun _ _ _ => rfl⟩
theorem ok_le : OpOk F (rI0 fun i j => .bl (decide (i ≤ j))) leU := op_I0 fun a b c e => by
  cases a <;> cases b <;> simp [leU] at e
  subst e; exact ⟨_, _, rfl, rfl, fun _ _ _ => rfl⟩
theorem ok_gt : OpOk F (rI0 fun i j => .bl (decide (j < i))) gtU := op_I0 fun a b c e => by
  cases a <;> cases b <;> simp [gtU] at e
  subst e; exact ⟨_, _, rfl, rfl, fun _ _ _ => rfl⟩
theorem ok_ge : OpOk F (rI0 fun i j => .bl (decide (j ≤ i))) geU := op_I0 fun a b c e => by
  cases a <;> cases b <;> simp [geU] at e
  subst e; exact ⟨_, _, rfl, rfl, fun _ _ _ => rfl⟩
theorem ok_mod : OpOk F (rI (fun _ j => j ≠ 0) fun i j => .int (i.fmod j)) modU := fun os as H a b c x y ok ha hb e QQ k => by
  cases a <;> cases b <;> simp [modU] at e
  rename_i i j
  obtain ⟨h0, rfl⟩ := e
  exact ⟨i, j, ha, hb, h0, k _ H (Ex.refl H) rfl⟩
theorem ok_fdiv : OpOk F (rI CDivN fun i j => .int (i.fdiv j)) fdivU := fun os as H a b c x y ok ha hb e QQ k => by
  cases a <;> cases b <;> simp [fdivU] at e
  rename_i i j
  obtain ⟨h0, rfl⟩ := e
  exact ⟨i, j, ha, hb, h0, k _ H (Ex.refl H) rfl⟩
theorem ok_pow : OpOk F (rI CPow fun i j => .int (i ^ j.toNat)) powU := fun os as H a b c x y ok ha hb e QQ k => by
  cases a <;> cases b <;> simp [powU] at e
  rename_i i j
  obtain ⟨h0, rfl⟩ := e
  exact ⟨i, j, ha, hb, h0, k _ H (Ex.refl H) rfl⟩
theorem ok_add : OpOk F (rAddU F.G.K) addU := fun os as H a b c x y ok ha hb e QQ k => by
  cases a <;> cases b <;> simp [addU] at e
  · subst e; exact .inl ⟨_, _, ha, hb, k _ H (Ex.refl H) rfl⟩
  · obtain ⟨hl, rfl⟩ := e; exact .inr (.inr (.inr ⟨_, _, ha, hb, hl, k _ H (Ex.refl H) rfl⟩))
  · obtain ⟨hl, rfl⟩ := e
    rename_i us vs
    obtain ⟨a, xs, rfl, ta, qa⟩ := ha
    obtain ⟨b, ys, rfl, tb, qb⟩ := hb
    refine .inr (.inl ⟨a, b, xs, ys, rfl, rfl, EL.sqT_of ta, EL.sqT_of tb, by rw [imAll_len qa, imAll_len qb]; exact hl, fun z => ?_, fun _ z => ?_, fun _ _ p hp => ?_⟩)
    · subst z
      have : us = [] := List.eq_nil_of_length_eq_zero (imAll_len qa).symm
      subst this
      exact k _ H (Ex.refl H) ⟨b, ys, rfl, tb, qb⟩
    · subst z
      have : vs = [] := List.eq_nil_of_length_eq_zero (imAll_len qb).symm
      subst this
      exact k _ H (Ex.refl H) (by rw [List.append_nil]; exact ⟨a, xs, rfl, ta, qa⟩)
    · exact k _ _ (Ex.new hp) ⟨p, xs ++ ys, rfl, upd_same, imAll_st (RB.of_ex (Ex.new hp)) _ _ (imAll_append qa qb)⟩
  · obtain ⟨hl, rfl⟩ := e
    obtain ⟨a, xs, rfl, na, ta, qa⟩ := ha
    obtain ⟨b, ys, rfl, nb, tb, qb⟩ := hb
    exact .inr (.inr (.inl ⟨a, b, xs, ys, rfl, rfl, ta, tb, by rw [imAll_len qa, imAll_len qb]; exact hl, fun p hp => k _ _ (Ex.new hp) ⟨p, xs ++ ys, rfl, fun z => ok p z hp, upd_same, imAll_st (RB.of_ex (Ex.new hp)) _ _ (imAll_append qa qb)⟩⟩))
theorem ok_mul : OpOk F (rMulU F.G.K) mulU := fun os as H a b c x y ok ha hb e QQ k => by
  cases a <;> cases b <;> simp [mulU] at e
  · obtain ⟨hc, rfl⟩ := e; exact .inl ⟨_, _, ha, hb, hc, k _ H (Ex.refl H) rfl⟩
  · obtain ⟨⟨h0, h1, hl⟩, rfl⟩ := e
    rename_i us i
    obtain ⟨a, xs, rfl, ta, qa⟩ := ha
    refine .inr (.inl ⟨a, i, xs, rfl, hb, EL.sqT_of ta, h0, h1, by rw [imAll_len qa]; exact hl, fun z => k _ H (Ex.refl H) ⟨a, xs, rfl, ta, ?_⟩, fun _ _ p hp => k _ _ (Ex.new hp) ⟨p, _, rfl, upd_same, imAll_st (RB.of_ex (Ex.new hp)) _ _ (imAll_rep qa _)⟩⟩)
    rcases z with z | z
    · subst z
      have : us = [] := List.eq_nil_of_length_eq_zero (imAll_len qa).symm
      subst this
      rw [show (List.replicate i.toNat ([] : List U)).flatten = [] by simp]
      exact qa
    · subst z
      rw [show (List.replicate (1 : Int).toNat us).flatten = us by simp]
      exact qa
  · obtain ⟨⟨h0, h1, hl⟩, rfl⟩ := e
    rename_i us i
    obtain ⟨a, xs, rfl, na, ta, qa⟩ := ha
    exact .inr (.inr ⟨a, i, xs, rfl, hb, ta, by omega, by omega, by rw [imAll_len qa]; exact hl, fun p hp => k _ _ (Ex.new hp) ⟨p, _, rfl, fun z => ok p z hp, upd_same, imAll_st (RB.of_ex (Ex.new hp)) _ _ (imAll_rep qa _)⟩⟩)
theorem ok_eqD : OpOk F (rEqU F.G.K) eqD := fun os as H a b c x y ok ha hb e QQ k => by
  unfold eqD at e
  cases e1 : pd a with
  | none => rw [e1] at e; cases e
  | some d =>
    cases e2 : pd b with
    | none => rw [e1, e2] at e; cases e
    | some d' =>
      rw [e1, e2] at e
      simp at e
      obtain ⟨⟨h1, h2⟩, rfl⟩ := e
      exact .inl ⟨d, d', rd_dp ha e1, rd_dp hb e2, h1, h2, k _ H (Ex.refl H) rfl⟩
theorem ok_neD : OpOk F (rNeU F.G.K) neD := fun os as H a b c x y ok ha hb e QQ k => by
  unfold neD at e
  cases e1 : pd a with
  | none => rw [e1] at e; cases e
  | some d =>
    cases e2 : pd b with
    | none => rw [e1, e2] at e; cases e
    | some d' =>
      rw [e1, e2] at e
      simp at e
      obtain ⟨⟨h1, h2⟩, rfl⟩ := e
      exact .inl ⟨d, d', rd_dp ha e1, rd_dp hb e2, h1, h2, k _ H (Ex.refl H) rfl⟩
theorem ok_eq : OpOk F (rEqU F.G.K) eqU := fun os as H a b c x y ok ha hb e QQ k => by
  by_cases h : ∃ s t, a = .str s ∧ b = .str t
  · obtain ⟨s, t, rfl, rfl⟩ := h
    cases e
    cases (show x = V.str s from ha); cases (show y = V.str t from hb)
    exact .inr ⟨rfl, k _ H (Ex.refl H) (by show V.bl _ = V.bl _; congr 1; by_cases z : s = t <;> simp [z])⟩
  · exact ok_eqD os as H a b c x y ok ha hb (by
      unfold eqU at e
      split at e
      · exact absurd ⟨_, _, rfl, rfl⟩ h
      · exact e) QQ k
theorem ok_ne : OpOk F (rNeU F.G.K) neU := fun os as H a b c x y ok ha hb e QQ k => by
  by_cases h : ∃ s t, a = .str s ∧ b = .str t
  · obtain ⟨s, t, rfl, rfl⟩ := h
    cases e
    cases (show x = V.str s from ha); cases (show y = V.str t from hb)
    exact .inr ⟨rfl, k _ H (Ex.refl H) (by show V.bl _ = V.bl _; congr 2; by_cases z : s = t <;> simp [z])⟩
  · exact ok_neD os as H a b c x y ok ha hb (by
      unfold neU at e
      split at e
      · exact absurd ⟨_, _, rfl, rfl⟩ h
      · exact e) QQ k
theorem ok_lt : OpOk F (rLtU F.G.K) ltU := fun os as H a b c x y ok ha hb e QQ k => by
  have gen : ∀ {a b : U} {x y : V}, rd F os as a x H → rd F os as b y H → (match pd a, pd b with
    | some d, some e => if PySem.W.alike d e = true ∧ notNone d = true ∧ d.depth ≤ 64 then some (U.bl (PySem.W.dataLt d e)) else none
    | _, _ => none) = some c → rLtU F.G.K x y H QQ := fun {a b x y} ha hb e => by
    cases e1 : pd a with
    | none => rw [e1] at e; cases e
    | some d =>
      cases e2 : pd b with
      | none => rw [e1, e2] at e; cases e
      | some d' =>
        rw [e1, e2] at e
        simp at e
        obtain ⟨⟨h1, h2, h3⟩, rfl⟩ := e
        exact .inr ⟨d, d', rd_dp ha e1, rd_dp hb e2, h1, notNone_ne h2, h3, k _ H (Ex.refl H) rfl⟩
  cases a with
  | int i =>
    cases b with
    | int j => simp [ltU] at e; subst e; exact .inl ⟨i, j, ha, hb, k _ H (Ex.refl H) rfl⟩
    | _ => exact gen ha hb e
  | _ => exact gen ha hb e
theorem atI_im {G : Cxt} {rs : List Addr} {B : Bn} {H : Hp} {us : List U} {vs : List V} {i : Int} {u : U} (h : imAll G rs B us vs H) (e : atI us i = some u) : ∃ v, atI vs i = some v ∧ im G rs B u v H := by
  unfold atI at e ⊢
  rw [imAll_len h]
  cases q : ixN us.length i with
  | none => rw [q] at e; cases e
  | some j =>
    rw [q] at e
    exact imAll_get h (show us[j]? = some u from e)
theorem ok_ix : OpOk F (rIx F.G.K) ixU := fun os as H a b c x y ok ha hb e QQ k => by
  cases a <;> cases b <;> simp [ixU] at e
  · obtain ⟨a, xs, rfl, ta, qa⟩ := ha
    obtain ⟨v, e1, e2⟩ := atI_im qa e
    exact .inr (.inl ⟨a, xs, _, v, rfl, hb, EL.sqT_of ta, e1, k v H (Ex.refl H) e2⟩)
  · obtain ⟨a, xs, rfl, _, ta, qa⟩ := ha
    obtain ⟨v, e1, e2⟩ := atI_im qa e
    exact .inl ⟨a, xs, _, v, rfl, hb, .inl (.inl ta), e1, k v H (Ex.refl H) e2⟩
  · obtain ⟨a, xs, rfl, ta, qa⟩ := ha
    obtain ⟨v, e1, e2⟩ := atI_im qa e
    exact .inl ⟨a, xs, _, v, rfl, hb, ta.sq, e1, k v H (Ex.refl H) e2⟩
theorem ok_len : Op1Ok F (rLenQ F.G.K) lenU := fun os as H a c x ok ha e QQ k => by
  cases a <;> simp [lenU] at e <;> subst e
  · obtain ⟨a, xs, rfl, ta, qa⟩ := ha
    exact ⟨a, xs, rfl, .inr (EL.sqT_of ta), k _ H (Ex.refl H) (by rw [imAll_len qa]; rfl)⟩
  · obtain ⟨a, xs, rfl, _, ta, qa⟩ := ha
    exact ⟨a, xs, rfl, .inl (.inl (.inl ta)), k _ H (Ex.refl H) (by rw [imAll_len qa]; rfl)⟩
  · obtain ⟨a, xs, rfl, ta, qa⟩ := ha
    exact ⟨a, xs, rfl, .inl ta.sq, k _ H (Ex.refl H) (by rw [imAll_len qa]; rfl)⟩
theorem ok_tuple : Op1Ok F (rTupQ F.G.K) tupleU := fun os as H a c x ok ha e QQ k => by
  cases a <;> simp [tupleU] at e <;> subst e
  · obtain ⟨a, xs, rfl, ta, qa⟩ := ha
    exact ⟨a, xs, rfl, .inr ⟨EL.sqT_of ta, k _ H (Ex.refl H) ⟨a, xs, rfl, ta, qa⟩⟩⟩
  · obtain ⟨a, xs, rfl, _, ta, qa⟩ := ha
    exact ⟨a, xs, rfl, .inl ⟨.inl (.inl ta), fun l hl => k _ _ (Ex.new hl) ⟨l, xs, rfl, upd_same, imAll_st (RB.of_ex (Ex.new hl)) _ _ qa⟩⟩⟩
theorem ok_list : Op1Ok F (rListQ F.G.K) listU := fun os as H a c x ok ha e QQ k => by
  cases a <;> simp [listU] at e <;> subst e
  · obtain ⟨a, xs, rfl, ta, qa⟩ := ha
    exact ⟨a, xs, rfl, .inr (EL.sqT_of ta), fun l hl => k _ _ (Ex.new hl) ⟨l, xs, rfl, fun z => ok l z hl, upd_same, imAll_st (RB.of_ex (Ex.new hl)) _ _ qa⟩⟩
  · obtain ⟨a, xs, rfl, _, ta, qa⟩ := ha
    exact ⟨a, xs, rfl, .inl (.inl (.inl ta)), fun l hl => k _ _ (Ex.new hl) ⟨l, xs, rfl, fun z => ok l z hl, upd_same, imAll_st (RB.of_ex (Ex.new hl)) _ _ qa⟩⟩
theorem imAll_bools {G : Cxt} {rs : List Addr} {B : Bn} {H : Hp} : ∀ {us : List U} {bs : List Bool} {vs : List V}, boolsU us = some bs → imAll G rs B us vs H → vs = bs.map V.bl
  | [], bs, vs, e, h => by cases e; exact h
  | .bl b :: r, bs, vs, e, ⟨v, w, ev, h1, h2⟩ => by
    cases e1 : boolsU r with
    | none => rw [boolsU, e1] at e; cases e
    | some cs =>
      rw [boolsU, e1] at e; cases e
      rw [ev, show v = _ from h1, imAll_bools e1 h2]; rfl
theorem ok_all : Op1Ok F (rAll F.G.K) allU := fun os as H a c x ok ha e QQ k => by
  cases a <;> simp [allU] at e
  obtain ⟨bs, e1, rfl⟩ := e
  obtain ⟨a, xs, rfl, _, ta, qa⟩ := ha
  rw [imAll_bools e1 qa] at ta
  exact ⟨a, bs, rfl, .inl (.inl ta), k _ H (Ex.refl H) rfl⟩
theorem ok_any : Op1Ok F (rAny F.G.K) anyU := fun os as H a c x ok ha e QQ k => by
  cases a <;> simp [anyU] at e
  obtain ⟨bs, e1, rfl⟩ := e
  obtain ⟨a, xs, rfl, _, ta, qa⟩ := ha
  rw [imAll_bools e1 qa] at ta
  exact ⟨a, bs, rfl, .inl (.inl ta), k _ H (Ex.refl H) rfl⟩
theorem rd_ty {os : Os} {as : SA} {H : Hp} : ∀ {u : U} {v : V} {t : String}, tyU u = some t → rd F os as u v H → TyX F.G.K H v (.type t)
  | .non, _, _, e, h => by cases e; cases (show _ = _ from h); exact .base .non
  | .bl _, _, _, e, h => by cases e; cases (show _ = _ from h); exact .base (.bl _)
  | .int _, _, _, e, h => by cases e; cases (show _ = _ from h); exact .base (.int _)
  | .str _, _, _, e, h => by cases e; cases (show _ = _ from h); exact .base (.str _)
  | .tup us, _, _, e, ⟨a, vs, ev, s, _⟩ => by
    cases e; subst ev
    exact .base (.tup s)
  | .lst us, _, _, e, ⟨a, vs, ev, _, s, _⟩ => by
    cases e; subst ev
    exact .base (.lst s)
  | .dct ks us, _, _, e, ⟨a, vs, ev, _, s, _, _⟩ => by
    cases e; subst ev
    rcases s with s | ⟨o, s⟩
    · exact .base (.dK s)
    · exact .fDict s
end
end UX

set_option Elab.async false
set_option linter.all false
set_option maxRecDepth 100000
set_option maxHeartbeats 4000000
set_option autoImplicit false
namespace UX
open PySem PySem.Spec PyProof.Rows L2
open EL (Ex RB BOk Bn TK rAddU rMulU rSlU rEqU rNeU rLtU rLenQ rTupQ rListQ rReprD cut)
def op1 (f : U → Option U) (wa : M U) : M U := .bind wa fun a => .o (f a)
def op2 (f : U → U → Option U) (wa wb : M U) : M U := .bind wa fun a => .bind wb fun b => .o (f a b)
def testW (wa : M U) : M Bool := .bind wa fun a => .o (boolU a)
def notT (w : M Bool) : M Bool := .bind w fun b => .ret (!b)
def andT (w w' : M Bool) : M Bool := .bind w fun b => if b = true then w' else .ret false
def orT (w w' : M Bool) : M Bool := .bind w fun b => if b = true then .ret true else w'
def andW (w w' : M U) : M U := .bind (testW w) fun b => if b = true then w' else .ret (.bl false)
def orW (w w' : M U) : M U := .bind (testW w) fun b => if b = true then .ret (.bl true) else w'
def iteW {α : Type} (c : M Bool) (w w' : M α) : M α := .bind c fun b => if b = true then w else w'
def chainW (f g : U → U → Option U) (wa wb wc : M U) : M U := .bind wa fun a => .bind wb fun b => .bind (testW (.o (f a b))) fun k => if k = true then .bind wc fun c => .o (g b c) else .ret (.bl false)
def consA (wa : M U) (wr : M (List U)) : M (List U) := .bind wa fun a => .bind wr fun r => .ret (a :: r)
def nilA : M (List U) := .ret []
def tupW (wa : M (List U)) : M U := .bind wa fun us => .o (if us.length ≤ sizeLine then some (.tup us) else none)
def lstW (wa : M (List U)) : M U := .bind wa fun us => .o (if us.length ≤ sizeLine then some (.lst us) else none)
def noP : M (Option Int) := .ret none
def someP (w : M U) : M (Option Int) := .bind w fun u => .o ((intU u).map some)
def slW (wa : M U) (wl wh : M (Option Int)) : M U := .bind wa fun a => .bind wl fun l => .bind wh fun h => .o (slU a l h)
section
variable {F : Fr} {δ : Dl} {te ta tb tc : TE} {tt tu : TT} {wa wb wc : M U} {w w' : M U} {wt wu : M Bool}
theorem EvW.r (h : EvW F te δ w) : EvR F te δ w := fun os as st γ σ H a st' S q QQ k => h os as st γ σ H a st' S q QQ fun v H' as' g S' p => k v H' as' g S' (rd_of_im p)
theorem ev_var {i : Nat} {u : U} (h : δ[i]? = some (some (.im u))) : EvW F (tVar i) δ (.ret u) := fun os as st γ σ H a st' S q QQ k => by
  cases q
  obtain ⟨v, e, p⟩ := S.get h
  exact ⟨v, e, k v H as (Go.refl _ _) S p⟩
theorem rd_of_own {os : Os} {as : SA} {i : Nat} {s : Sh} {u : U} {v : V} {H : Hp} {A : List Addr} (nd : (flo os ++ fl as).Nodup) (nb : ∀ a, a ∈ flo os ∨ a ∈ fl as → ¬ F.B a) (m : (i, A) ∈ os) (hs : s = .lst .leaf ∨ s = .dct .leaf ∨ s = .obj (fun _ => .leaf) ∨ s = .leaf) (h : ownD F.G (rts as) (ban F os as) s u v H A) : rd F os as u v H := by
  have off : ∀ a ∈ A, ¬ ban F [] as a := fun a z q => q.elim (nb a (.inl (mem_flo m z))) fun q => q.elim (fun w => nomatch w) fun q => (List.nodup_append.mp nd).2.2 a (mem_flo m z) a q rfl
  rcases hs with rfl | rfl | rfl | rfl
  · cases u <;> first | exact h.elim | skip
    obtain ⟨a, vs, e1, e2, h1, q⟩ := own_lst.mp h
    exact ⟨a, vs, e1, off a (by rw [e2]; exact List.mem_cons_self), h1, q⟩
  · cases u <;> first | exact h.elim | skip
    · obtain ⟨a, vs, e1, e2, h1, l, q⟩ := own_dct.mp h
      exact ⟨a, vs, e1, off a (by rw [e2]; exact List.mem_cons_self), .inl h1, l, q⟩
    · obtain ⟨a, vs, e1, e2, h1, l, q⟩ := own_dcT.mp h
      exact ⟨a, vs, e1, off a (by rw [e2]; exact List.mem_cons_self), .inl h1, l, q⟩
    · obtain ⟨a, vs, e1, e2, h1, l, q⟩ := own_dcN.mp h
      exact ⟨a, vs, e1, off a (by rw [e2]; exact List.mem_cons_self), .inl h1, l, q⟩
  · cases u <;> first | exact h.elim | skip
    rename_i c ns us
    obtain ⟨a, dx, vs, A', e1, e2, h1, l, q⟩ := h
    exact ⟨a, dx, vs, e1, off a (by rw [e2]; exact List.mem_cons_self), h1, l, ((ownZ_leaf (f := fun n => (fun _ => Sh.leaf) (ns.getD n "")) fun _ => rfl).mp q).2⟩
  · exact rd_of_im h.2
theorem ev_own {i : Nat} {s : Sh} {u : U} (h : δ[i]? = some (some (.own s u))) (hs : s = .lst .leaf ∨ s = .dct .leaf ∨ s = .obj (fun _ => .leaf) ∨ s = .leaf) : EvR F (tVar i) δ (.ret u) := fun os as st γ σ H a st' S q QQ k => by
  cases q
  obtain ⟨v, e, A, m, p⟩ := S.get h
  exact ⟨v, e, k v H as (Go.refl _ _) S (rd_of_own S.nd S.nb m hs p)⟩
theorem ev_ownL {i : Nat} {u : U} (h : δ[i]? = some (some (.own (.lst .leaf) u))) : EvR F (tVar i) δ (.ret u) := ev_own h (.inl rfl)
theorem ev_ownD {i : Nat} {u : U} (h : δ[i]? = some (some (.own (.dct .leaf) u))) : EvR F (tVar i) δ (.ret u) := ev_own h (.inr (.inl rfl))
theorem ev_c {v : V} {u : U} (h : ∀ os as H, im F.G (rts as) (ban F os as) u v H) : EvW F (tC v) δ (.ret u) := fun os as st γ σ H a st' S q QQ k => by
  cases q; exact k _ H as (Go.refl _ _) S (h os as H)
theorem ev_int {i : Int} : EvW F (tC (.int i)) δ (.ret (.int i)) := ev_c fun _ _ _ => rfl
theorem ev_bl {b : Bool} : EvW F (tC (.bl b)) δ (.ret (.bl b)) := ev_c fun _ _ _ => rfl
theorem ev_str {x : Str} : EvW F (tC (.str x)) δ (.ret (.str x)) := ev_c fun _ _ _ => rfl
theorem ev_non : EvW F (tC .non) δ (.ret .non) := ev_c fun _ _ _ => rfl
theorem ev_op {r : R2} {f : U → U → Option U} (h : OpOk F r f) (ha : EvR F ta δ wa) (hb : EvR F tb δ wb) : EvW F (tOp r ta tb) δ (op2 f wa wb) := fun os as st γ σ H c st' S q QQ k => by
  obtain ⟨a, st1, qa, q⟩ := M.bind_inv q
  obtain ⟨b, st2, qb, q⟩ := M.bind_inv q
  obtain ⟨e, rfl⟩ := M.o_inv q
  exact ha os as st γ σ H a st1 S qa _ fun x H1 as1 g1 S1 px => hb os as1 st1 γ σ H1 b _ S1 qb _ fun y H2 as2 g2 S2 py =>
    h os as2 H2 a b c x y S2.ok (rd_go g2 px) py e QQ fun v H3 e3 p3 => k v H3 as2 ((g1.trans g2).trans (Go.of_ex e3)) (S2.ex e3) p3
theorem ev_cb1 {r : List V → Hp → VK → Prop} {f : U → Option U} (h : Op1Ok F r f) (ha : EvR F ta δ wa) : EvW F (tCB r (tCons ta tNil)) δ (op1 f wa) := fun os as st γ σ H c st' S q QQ k => by
  obtain ⟨a, st1, qa, q⟩ := M.bind_inv q
  obtain ⟨e, rfl⟩ := M.o_inv q
  exact ha os as st γ σ H a _ S qa _ fun x H1 as1 g1 S1 px => h os as1 H1 a c x S1.ok px e QQ fun v H3 e3 p3 => k v H3 as1 (g1.trans (Go.of_ex e3)) (S1.ex e3) p3
theorem ev_isi {T : String} (ha : EvR F ta δ wa) : EvW F (tCB (rIsi F.G.K) (tCons ta (tCons (tC (.ty T)) tNil))) δ (op1 (isiU · T) wa) := fun os as st γ σ H c st' S q QQ k => by
  obtain ⟨a, st1, qa, q⟩ := M.bind_inv q
  obtain ⟨ec, rfl⟩ := M.o_inv q
  refine ha os as st γ σ H a _ S qa _ fun x H1 as1 g1 S1 px => ?_
  unfold isiU at ec
  dsimp only at ec
  cases e : tyU a with
  | none => rw [e] at ec; cases ec
  | some t =>
    rw [e] at ec
    by_cases hT : ["int", "bool", "str", "tuple", "list", "dict"].contains T = true
    · simp only [hT, if_true] at ec
      cases ec
      exact ⟨x, .ty T, _, _, _, rfl, .ty T, rd_ty e px, kit_ty (kit_is e hT), k _ H1 as1 g1 S1 rfl⟩
    · simp only [hT] at ec; cases ec
theorem isN_rd {os : Os} {as : SA} {H : Hp} {a : U} {x : V} (px : rd F os as a x H) : decide (x = .non) = isNU a := by
  cases a with
  | non => rw [show x = .non from px]; rfl
  | bl _ | int _ | str _ | top _ => rw [show x = _ from px]; simp [isNU]
  | tup _ | frl _ => obtain ⟨a, vs, e, _⟩ := px; rw [e]; simp [isNU]
  | lst _ | dct _ _ | dcT _ _ | dcN _ _ => obtain ⟨a, vs, e, _⟩ := px; rw [e]; simp [isNU]
  | obj _ _ _ => obtain ⟨a, dx, vs, e, _⟩ := px; rw [e]; simp [isNU]
  | loc _ => obtain ⟨a, _, e⟩ := px; rw [e]; simp [isNU]
  | exc _ => obtain ⟨a, e, _⟩ := px; rw [e]; simp [isNU]
theorem ev_notN (ha : EvR F ta δ wa) : EvW F (tOp (fun x y H Q => y = .non ∧ Q (.bl (!decide (x = .non))) H) ta (tC .non)) δ (.bind wa fun a => .ret (.bl (!isNU a))) := fun os as st γ σ H c st' S q QQ k => by
  obtain ⟨a, st1, qa, q⟩ := M.bind_inv q
  cases q
  exact ha os as st γ σ H a _ S qa _ fun x H1 as1 g1 S1 px => ⟨rfl, k _ H1 as1 g1 S1 (by show V.bl _ = V.bl _; rw [isN_rd px])⟩
theorem rd_bl {os : Os} {as : SA} {H : Hp} {u : U} {v : V} {b : Bool} (e : boolU u = some b) (h : rd F os as u v H) : v = .bl b := by
  cases u <;> simp [boolU] at e
  subst e; exact h
theorem et_test (ha : EvR F te δ wa) : EvT F (tTest te) δ (testW wa) := fun os as st γ σ H c st' S q QQ k => by
  obtain ⟨a, st1, qa, q⟩ := M.bind_inv q
  obtain ⟨e, rfl⟩ := M.o_inv q
  exact ha os as st γ σ H a _ S qa _ fun x H1 as1 g1 S1 px => ⟨c, rd_bl e px, k H1 as1 g1 S1⟩
theorem et_B (ha : EvR F te δ wa) : EvT F (tB te) δ (testW wa) := fun os as st γ σ H c st' S q QQ k => by
  obtain ⟨a, st1, qa, q⟩ := M.bind_inv q
  obtain ⟨e, rfl⟩ := M.o_inv q
  exact ha os as st γ σ H a _ S qa _ fun x H1 as1 g1 S1 px => ⟨c, rd_bl e px, k H1 as1 g1 S1⟩
theorem et_not (h : EvT F tt δ wt) : EvT F (tNot tt) δ (notT wt) := fun os as st γ σ H c st' S q QQ k => by
  obtain ⟨a, st1, qa, q⟩ := M.bind_inv q
  cases q
  exact h os as st γ σ H a _ S qa _ fun H1 as1 g1 S1 => k H1 as1 g1 S1
theorem et_and (h : EvT F tt δ wt) (h' : EvT F tu δ wu) : EvT F (tAnd tt tu) δ (andT wt wu) := fun os as st γ σ H c st' S q QQ k => by
  obtain ⟨a, st1, qa, q⟩ := M.bind_inv q
  refine h os as st γ σ H a _ S qa _ fun H1 as1 g1 S1 => ?_
  cases a with
  | true => exact h' os as1 st1 γ σ H1 c st' S1 q QQ fun H2 as2 g2 S2 => k H2 as2 (g1.trans g2) S2
  | false => cases q; exact k H1 as1 g1 S1
theorem et_or (h : EvT F tt δ wt) (h' : EvT F tu δ wu) : EvT F (tOr tt tu) δ (orT wt wu) := fun os as st γ σ H c st' S q QQ k => by
  obtain ⟨a, st1, qa, q⟩ := M.bind_inv q
  refine h os as st γ σ H a _ S qa _ fun H1 as1 g1 S1 => ?_
  cases a with
  | false => exact h' os as1 st1 γ σ H1 c st' S1 q QQ fun H2 as2 g2 S2 => k H2 as2 (g1.trans g2) S2
  | true => cases q; exact k H1 as1 g1 S1
theorem et_yes : EvT F tYes δ (.ret true) := fun os as st γ σ H c st' S q QQ k => by
  cases q; exact k H as (Go.refl _ _) S
theorem ev_and (h : EvR F ta δ wa) (h' : EvW F tb δ wb) : EvW F (tAndV ta tb) δ (andW wa wb) := fun os as st γ σ H c st' S q QQ k => by
  obtain ⟨b, st1, qa, q⟩ := M.bind_inv q
  obtain ⟨a, st2, qa, q2⟩ := M.bind_inv qa
  obtain ⟨e, rfl⟩ := M.o_inv q2
  refine h os as st γ σ H a _ S qa _ fun x H1 as1 g1 S1 px => ⟨b, rd_bl e px, ?_⟩
  cases b with
  | true => exact h' os as1 _ γ σ H1 c st' S1 q _ fun v H2 as2 g2 S2 p => k v H2 as2 (g1.trans g2) S2 p
  | false => cases q; exact k _ H1 as1 g1 S1 rfl
theorem ev_or (h : EvR F ta δ wa) (h' : EvW F tb δ wb) : EvW F (tOrV ta tb) δ (orW wa wb) := fun os as st γ σ H c st' S q QQ k => by
  obtain ⟨b, st1, qa, q⟩ := M.bind_inv q
  obtain ⟨a, st2, qa, q2⟩ := M.bind_inv qa
  obtain ⟨e, rfl⟩ := M.o_inv q2
  refine h os as st γ σ H a _ S qa _ fun x H1 as1 g1 S1 px => ⟨b, rd_bl e px, ?_⟩
  cases b with
  | false => exact h' os as1 _ γ σ H1 c st' S1 q _ fun v H2 as2 g2 S2 p => k v H2 as2 (g1.trans g2) S2 p
  | true => cases q; exact k _ H1 as1 g1 S1 rfl
theorem ev_not (h : EvR F ta δ wa) : EvW F (tNotV ta) δ (op1 notU wa) := fun os as st γ σ H c st' S q QQ k => by
  obtain ⟨a, st1, qa, q⟩ := M.bind_inv q
  obtain ⟨e, rfl⟩ := M.o_inv q
  refine h os as st γ σ H a _ S qa _ fun x H1 as1 g1 S1 px => ?_
  cases a <;> simp [notU] at e
  subst e
  exact ⟨_, px, k _ H1 as1 g1 S1 rfl⟩
theorem evp_if {P : PP U} {wa wb : M U} (h : EvT F tt δ wt) (ha : EvP F P ta δ wa) (hb : EvP F P tb δ wb) (tr : ∀ os as H H0 u v H', (∀ a, H' a = none → H a = none) → P os as H' u v H0 → P os as H u v H0) : EvP F P (tIf tt ta tb) δ (iteW wt wa wb) := fun os as st γ σ H c st' S q QQ k => by
  obtain ⟨b, st1, qa, q⟩ := M.bind_inv q
  refine h os as st γ σ H b _ S qa _ fun H1 as1 g1 S1 => ?_
  cases b with
  | true => exact ha os as1 _ γ σ H1 c st' S1 q _ fun v H2 as2 g2 S2 p => k v H2 as2 (g1.trans g2) S2 (tr _ _ _ _ _ _ _ (fun a => g1.fresh) p)
  | false => exact hb os as1 _ γ σ H1 c st' S1 q _ fun v H2 as2 g2 S2 p => k v H2 as2 (g1.trans g2) S2 (tr _ _ _ _ _ _ _ (fun a => g1.fresh) p)
theorem ev_if (h : EvT F tt δ wt) (ha : EvW F ta δ wa) (hb : EvW F tb δ wb) : EvW F (tIf tt ta tb) δ (iteW wt wa wb) := evp_if h ha hb fun _ _ _ _ _ _ _ _ p => p
theorem ev_chain {r r' : R2} {f g : U → U → Option U} (hf : OpOk F r f) (hg : OpOk F r' g) (ha : EvR F ta δ wa) (hb : EvR F tb δ wb) (hc : EvR F tc δ wc) : EvW F (tChain r r' ta tb tc) δ (chainW f g wa wb wc) := fun os as st γ σ H c st' S q QQ k => by
  obtain ⟨a, st1, qa, q⟩ := M.bind_inv q
  obtain ⟨b, st2, qb, q⟩ := M.bind_inv q
  obtain ⟨z, st3, qz, q⟩ := M.bind_inv q
  obtain ⟨y, st4, qy, qz2⟩ := M.bind_inv (show M.bind (M.o (f a b)) (fun a => M.o (boolU a)) st2 = _ from qz)
  obtain ⟨ey, rfl⟩ := M.o_inv qy
  obtain ⟨ez, rfl⟩ := M.o_inv qz2
  refine ha os as st γ σ H a st1 S qa _ fun x H1 as1 g1 S1 px => hb os as1 st1 γ σ H1 b _ S1 qb _ fun y' H2 as2 g2 S2 py => ?_
  refine hf os as2 H2 a b y x y' S2.ok (rd_go g2 px) py ey _ fun v H3 e3 p3 => ⟨z, rd_bl (F := F) (os := os) (as := as2) (H := H3) ez (rd_of_im p3), ?_⟩
  have g3 := (g1.trans g2).trans (Go.of_ex (as := as2) e3)
  cases z with
  | false => cases q; exact k _ H3 as2 g3 (S2.ex e3) rfl
  | true =>
    obtain ⟨c', st5, qc, q⟩ := M.bind_inv q
    obtain ⟨ec, rfl⟩ := M.o_inv q
    refine hc os as2 _ γ σ H3 c' _ (S2.ex e3) qc _ fun u H4 as4 g4 S4 pu => ?_
    exact hg os as4 H4 b c' c y' u S4.ok (rd_go g4 (rd_go (Go.of_ex e3) py)) pu ec QQ fun v H5 e5 p5 => k v H5 as4 ((g3.trans g4).trans (Go.of_ex e5)) (S4.ex e5) p5
theorem ea_nil : EvAW F tNil δ nilA := fun os as st γ σ H us st' S q QQ k => by cases q; exact k [] H as (Go.refl _ _) S rfl
theorem ea_cons {tr : TA} {wr : M (List U)} (ha : EvW F ta δ wa) (hr : EvAW F tr δ wr) : EvAW F (tCons ta tr) δ (consA wa wr) := fun os as st γ σ H us st' S q QQ k => by
  obtain ⟨a, st1, qa, q⟩ := M.bind_inv q
  obtain ⟨r, st2, qr, q⟩ := M.bind_inv q
  cases q
  exact ha os as st γ σ H a _ S qa _ fun x H1 as1 g1 S1 px => hr os as1 st1 γ σ H1 r _ S1 qr _ fun vs H2 as2 g2 S2 pv => k (x :: vs) H2 as2 (g1.trans g2) S2 ⟨x, vs, rfl, im_go g2 px, pv⟩
theorem ev_tup {t : TA} {wl : M (List U)} (h : EvAW F t δ wl) : EvW F (tTup t) δ (tupW wl) := fun os as st γ σ H c st' S q QQ k => by
  obtain ⟨us, st1, qa, q⟩ := M.bind_inv q
  obtain ⟨e, rfl⟩ := M.o_inv q
  by_cases hl : us.length ≤ sizeLine
  · rw [if_pos hl] at e
    cases e
    exact h os as st γ σ H us _ S qa _ fun vs H1 as1 g1 S1 pv => ⟨by rw [imAll_len pv]; exact hl, fun p hp => k _ _ as1 (g1.trans (Go.of_ex (Ex.new hp))) (S1.ex (Ex.new hp)) ⟨p, vs, rfl, upd_same, imAll_st (RB.of_ex (Ex.new hp)) _ _ pv⟩⟩
  · rw [if_neg hl] at e; cases e
theorem flo_cons {os : Os} {p : Nat × List Addr} : flo (p :: os) = p.2 ++ flo os := rfl
theorem ban_cons {os : Os} {as : SA} {k : Nat} {A : List Addr} {a : Addr} : ban F ((k, A) :: os) as a ↔ a ∈ A ∨ ban F os as a := by
  unfold ban
  rw [flo_cons, List.mem_append]
  constructor
  · rintro (h | (h | h) | h)
    · exact .inr (.inl h)
    · exact .inl h
    · exact .inr (.inr (.inl h))
    · exact .inr (.inr (.inr h))
  · rintro (h | h | h | h)
    · exact .inr (.inl (.inl h))
    · exact .inl h
    · exact .inr (.inl (.inr h))
    · exact .inr (.inr h)
theorem sub_cons {os : Os} {as : SA} {k : Nat} {A : List Addr} {H : Hp} (hA : ∀ a ∈ A, H a = none) : ∀ a, H a ≠ none → ban F ((k, A) :: os) as a → ban F os as a := fun a n b => (ban_cons.mp b).elim (fun z => absurd (hA a z) n) id
theorem SDo.grow {os : Os} {as : SA} {st : Sto} {γ : List (U × V)} {H H' : Hp} {σ : L2.St} {k : Nat} {p : Addr} (S : SDo F os as st γ H σ δ) (hk : k ∉ os.map (·.1)) (hp : H p = none) (e : Ex H H') (hp' : H' p ≠ none) : SDo F ((k, [p]) :: os) as st γ H' σ δ := by
  have hA : ∀ a ∈ [p], H a = none := fun a m => by rw [List.mem_singleton] at m; rw [m]; exact hp
  have sb := sub_cons (F := F) (os := os) (as := as) (k := k) hA
  have up : ∀ u v, im F.G (rts as) (ban F os as) u v H → im F.G (rts as) (ban F ((k, [p]) :: os) as) u v H' := fun u v h => im_st (RB.of_ex e) _ _ (im_sub sb _ _ h)
  have tp : ∀ a xs, H a = some (.tup xs) → H' a = some (.tup xs) := fun a xs h => e _ _ h
  have kp : ∀ a, H a ≠ none → H' a = H a := fun a n => by
    cases q : H a with
    | none => exact absurd q n
    | some o => exact e a o q
  refine ⟨fun q m => up _ _ (S.gh q m), S.rel.trans (Go.of_ex e), fun a b => ?_, ?_, List.nodup_cons.mpr ⟨hk, S.ix⟩, fun a m => ?_, fun a z => ?_, StOk.mono up tp (fun a m => kp a (S.ok a (.inr (.inr m)))) S.sto, S.len, fun i x e1 => ?_⟩
  · rcases ban_cons.mp b with z | z
    · rw [List.mem_singleton] at z; rw [z]; exact hp'
    · rw [kp a (S.ok a z)]; exact S.ok a z
  · rw [flo_cons]
    show ([p] ++ flo os ++ fl as).Nodup
    rw [List.append_assoc]
    refine List.nodup_append.mpr ⟨by simp, S.nd, fun a m b q e => ?_⟩
    rw [List.mem_singleton] at m
    subst m e
    exact S.ok _ ((List.mem_append.mp q).elim (fun z => .inr (.inl z)) fun z => .inr (.inr z)) hp
  · rcases List.mem_append.mp (show a ∈ [p] ++ flo os from m) with z | z
    · rw [List.mem_singleton] at z; rw [z]; exact S.rel.fresh hp
    · exact S.new a z
  · rcases z with z | z
    · rcases List.mem_append.mp (show a ∈ [p] ++ flo os from z) with z | z
      · rw [List.mem_singleton] at z; rw [z]; exact fun b => S.ok p (.inl b) hp
      · exact S.nb a (.inl z)
    · exact S.nb a (.inr z)
  · obtain ⟨v, h1, h2⟩ := S.at_ i x e1
    refine ⟨v, h1, ?_⟩
    match x, h2 with
    | .im u, h2 => exact up _ _ h2
    | .raw _, h2 => exact h2
    | .own sh u, ⟨A, m, h2⟩ => exact ⟨A, List.mem_cons_of_mem _ m, own_mono up tp _ _ _ _ (fun a z => kp a (S.ok a (.inr (.inl (mem_flo m z))))) h2⟩
theorem en_lst {t : TA} {wl : M (List U)} (h : EvAW F t δ wl) : EvN F (.lst .leaf) (tLst t) δ (lstW wl) := fun os as st γ σ H c st' S q QQ k => by
  obtain ⟨us, st1, qa, q⟩ := M.bind_inv q
  obtain ⟨e, rfl⟩ := M.o_inv q
  by_cases hl : us.length ≤ sizeLine
  · rw [if_pos hl] at e
    cases e
    refine h os as st γ σ H us _ S qa _ fun vs H1 as1 g1 S1 pv => ⟨by rw [imAll_len pv]; exact hl, fun p hp => k _ _ as1 [p] (g1.trans (Go.of_ex (Ex.new hp))) (fun k hk => S1.grow hk hp (Ex.new hp) (by rw [upd_same]; exact fun z => nomatch z)) ?_ fun a m => ?_⟩
    · refine own_lst.mpr ⟨p, vs, rfl, rfl, upd_same, imAll_st (RB.of_ex (Ex.new hp)) _ _ (imAll_sub (sub_cons fun a m => ?_) _ _ pv)⟩
      rw [List.mem_singleton] at m; rw [m]; exact hp
    · rw [List.mem_singleton] at m; rw [m]; exact g1.fresh hp
  · rw [if_neg hl] at e; cases e
theorem own_im {B : Bn} {G : Cxt} {rs : List Addr} {H : Hp} : ∀ (s : Sh) (u : U) (v : V) (A : List Addr), (∀ a ∈ A, ¬ B a) → ownD G rs B s u v H A → im G rs B u v H := by
  have key : ∀ (P : Nat → U → V → Hp → List Addr → Prop) (us : List U) (n : Nat) (vs : List V) (A : List Addr), (∀ n u v A1, (∀ a ∈ A1, a ∈ A) → P n u v H A1 → im G rs B u v H) → ownZ P n us vs H A → imAll G rs B us vs H := by
    intro P us
    induction us with
    | nil => intro n vs A _ h; exact h.1
    | cons u us ih =>
      rintro n vs A f ⟨v, r, A1, A2, e1, e2, h1, h2⟩
      exact ⟨v, r, e1, f n u v A1 (fun a m => by rw [e2]; exact List.mem_append_left _ m) h1, ih (n + 1) r A2 (fun n u v A3 s p => f n u v A3 (fun a m => by rw [e2]; exact List.mem_append_right _ (s a m)) p) h2⟩
  intro s
  induction s with
  | leaf => intro u v A _ h; exact h.2
  | lst s ih =>
    intro u v A nb h
    cases u <;> first | exact h.elim | skip
    obtain ⟨a, vs, A', e1, e2, h1, q⟩ := h
    exact ⟨a, vs, e1, nb a (by rw [e2]; exact List.mem_cons_self), h1, key _ _ _ _ _ (fun n u v A1 m p => ih u v A1 (fun a z => nb a (by rw [e2]; exact List.mem_cons_of_mem _ (m a z))) p) q⟩
  | dct s ih =>
    intro u v A nb h
    cases u <;> first | exact h.elim | skip
    case' dcN =>
      obtain ⟨a, vs, A', e1, e2, h1, l, q1, q⟩ := h
      exact ⟨a, vs, e1, nb a (by rw [e2]; exact List.mem_cons_self), .inl h1, l, q1, key _ _ _ _ _ (fun n u v A1 m p => ih u v A1 (fun a z => nb a (by rw [e2]; exact List.mem_cons_of_mem _ (m a z))) p) q⟩
    all_goals
      obtain ⟨a, vs, A', e1, e2, h1, l, q⟩ := h
      exact ⟨a, vs, e1, nb a (by rw [e2]; exact List.mem_cons_self), .inl h1, l, key _ _ _ _ _ (fun n u v A1 m p => ih u v A1 (fun a z => nb a (by rw [e2]; exact List.mem_cons_of_mem _ (m a z))) p) q⟩
  | tup f ih =>
    intro u v A nb h
    cases u <;> first | exact h.elim | skip
    obtain ⟨a, vs, e1, h1, q⟩ := h
    exact ⟨a, vs, e1, h1, key _ _ _ _ _ (fun n u v A1 m p => ih n u v A1 (fun a z => nb a (m a z)) p) q⟩
  | obj f ih =>
    intro u v A nb h
    cases u <;> first | exact h.elim | skip
    obtain ⟨a, dx, vs, A', e1, e2, h1, l, q⟩ := h
    exact ⟨a, dx, vs, e1, nb a (by rw [e2]; exact List.mem_cons_self), h1, l, key _ _ _ _ _ (fun n u v A1 m p => ih _ u v A1 (fun a z => nb a (by rw [e2]; exact List.mem_cons_of_mem _ (m a z))) p) q⟩
theorem nodup_fresh (l : List Nat) (n : Nat) : ∃ k, k ∉ l ∧ n ≤ k := by
  have key : ∀ l : List Nat, ∃ m, ∀ x ∈ l, x < m := by
    intro l
    induction l with
    | nil => exact ⟨0, fun _ h => nomatch h⟩
    | cons a l ih =>
      obtain ⟨m, h⟩ := ih
      refine ⟨max m (a + 1), fun x hx => ?_⟩
      rcases List.mem_cons.mp hx with rfl | hx
      · omega
      · have := h x hx; omega
  obtain ⟨m, h⟩ := key l
  refine ⟨max m n, fun z => ?_, by omega⟩
  have := h _ z
  omega
theorem SDo.ungrow {os : Os} {as : SA} {st : Sto} {γ : List (U × V)} {H : Hp} {σ : L2.St} {k : Nat} {A : List Addr} (S : SDo F ((k, A) :: os) as st γ H σ δ) (hk : δ.length ≤ k) : SDo F os as st γ H σ δ := by
  have sb : ∀ a, H a ≠ none → ban F os as a → ban F ((k, A) :: os) as a := fun a _ b => ban_cons.mpr (.inr b)
  have up : ∀ u v, im F.G (rts as) (ban F ((k, A) :: os) as) u v H → im F.G (rts as) (ban F os as) u v H := fun u v h => im_sub sb _ _ h
  refine ⟨fun q m => up _ _ (S.gh q m), S.rel, fun a b => S.ok a (ban_cons.mpr (.inr b)), (List.nodup_append.mp (show (A ++ (flo os ++ fl as)).Nodup by rw [← List.append_assoc]; exact S.nd)).2.1, (List.nodup_cons.mp S.ix).2, fun a m => S.new a (List.mem_append_right A m), fun a z => S.nb a (z.imp (fun m => List.mem_append_right A m) id), StOk.mono up (fun _ _ h => h) (fun _ _ => rfl) S.sto, S.len, fun i x e1 => ?_⟩
  obtain ⟨v, h1, h2⟩ := S.at_ i x e1
  refine ⟨v, h1, ?_⟩
  match x, h2 with
  | .im u, h2 => exact up _ _ h2
  | .raw _, h2 => exact h2
  | .own sh u, ⟨A', m, h2⟩ =>
    refine ⟨A', ?_, own_mono up (fun _ _ h => h) _ _ _ _ (fun _ _ => rfl) h2⟩
    rcases List.mem_cons.mp m with e | m
    · have := getElem?_lt e1
      have : i = k := (Prod.mk.inj e).1
      omega
    · exact m
theorem EvN.ew {s : Sh} (h : EvN F s te δ w) : EvW F te δ w := fun os as st γ σ H a st' S q QQ k => h os as st γ σ H a st' S q QQ fun v H' as' A g S' p n => by
  obtain ⟨j, hj, hl⟩ := nodup_fresh (os.map (·.1)) δ.length
  have S1 := S' j hj
  have nb : ∀ a ∈ A, ¬ ban F os as' a := fun a m b => by
    rcases b with b | b | b
    · exact S1.nb a (.inl (List.mem_append_left _ m)) b
    · exact (List.nodup_append.mp (show (A ++ (flo os ++ fl as')).Nodup by rw [← List.append_assoc]; exact S1.nd)).2.2 a m a (List.mem_append_left _ b) rfl
    · exact (List.nodup_append.mp (show (A ++ (flo os ++ fl as')).Nodup by rw [← List.append_assoc]; exact S1.nd)).2.2 a m a (List.mem_append_right _ b) rfl
  exact k v H' as' g (S1.ungrow hl) (own_im s _ _ A nb (own_mono (fun u v h => im_sub (fun a _ b => ban_cons.mpr (.inr b)) u v h) (fun _ _ h => h) _ _ _ _ (fun _ _ => rfl) p))
theorem eo_none : EvO F tNoPart δ noP := fun os as st γ σ H c st' S q QQ k => by cases q; exact k H as (Go.refl _ _) S
theorem eo_some (ha : EvR F te δ wa) : EvO F (tPart te) δ (someP wa) := fun os as st γ σ H c st' S q QQ k => by
  obtain ⟨a, st1, qa, q⟩ := M.bind_inv q
  obtain ⟨e, rfl⟩ := M.o_inv q
  refine ha os as st γ σ H a _ S qa _ fun x H1 as1 g1 S1 px => ?_
  cases a <;> simp [intU] at e
  subst e
  exact ⟨_, px, k H1 as1 g1 S1⟩
theorem cutV_im {G : Cxt} {rs : List Addr} {B : Bn} {H : Hp} {us : List U} {vs : List V} {lo hi : Option Int} (h : imAll G rs B us vs H) : imAll G rs B (cut us lo hi) (cutV vs lo hi) H := by
  unfold EL.cut cutV
  rw [imAll_len h]
  exact imAll_take _ (imAll_drop _ h)
theorem ev_sl {tl th : TO} {wl wh : M (Option Int)} (ha : EvR F te δ wa) (hl : EvO F tl δ wl) (hh : EvO F th δ wh) : EvW F (tSl (rSlU F.G.K) te tl th) δ (slW wa wl wh) := fun os as st γ σ H c st' S q QQ k => by
  obtain ⟨a, st1, qa, q⟩ := M.bind_inv q
  obtain ⟨lo, st2, ql, q⟩ := M.bind_inv q
  obtain ⟨hi, st3, qh, q⟩ := M.bind_inv q
  obtain ⟨e, rfl⟩ := M.o_inv q
  refine ha os as st γ σ H a _ S qa _ fun x H1 as1 g1 S1 px => hl os as1 st1 γ σ H1 lo _ S1 ql _ fun H2 as2 g2 S2 => hh os as2 st2 γ σ H2 hi _ S2 qh _ fun H3 as3 g3 S3 => ?_
  have px := rd_go g3 (rd_go g2 px)
  have g := (g1.trans g2).trans g3
  cases a <;> simp only [slU] at e <;> first | cases e | skip
  · obtain ⟨a, vs, e, s, pv⟩ := px
    refine .inr ⟨a, vs, e, EL.sqT_of s, fun z => ?_, fun _ p hp => k _ _ as3 (g.trans (Go.of_ex (Ex.new hp))) (S3.ex (Ex.new hp)) ⟨p, _, rfl, upd_same, imAll_st (RB.of_ex (Ex.new hp)) _ _ (cutV_im pv)⟩⟩
    refine k _ H3 as3 g S3 ⟨a, vs, rfl, s, ?_⟩
    have := cutV_im (lo := lo) (hi := hi) pv
    unfold cutV at this
    rw [z.1, z.2, List.drop_zero, Nat.sub_zero, List.take_length] at this
    exact this
  · obtain ⟨a, vs, e, nb, s, pv⟩ := px
    exact .inl ⟨a, vs, e, .inl (.inl s), fun p hp => k _ _ as3 (g.trans (Go.of_ex (Ex.new hp))) (S3.ex (Ex.new hp)) ⟨p, _, rfl, S3.notban hp, upd_same, imAll_st (RB.of_ex (Ex.new hp)) _ _ (cutV_im pv)⟩⟩
  · obtain ⟨a, vs, e, s, pv⟩ := px
    exact .inl ⟨a, vs, e, s.sq, fun p hp => k _ _ as3 (g.trans (Go.of_ex (Ex.new hp))) (S3.ex (Ex.new hp)) ⟨p, _, rfl, S3.notban hp, upd_same, imAll_st (RB.of_ex (Ex.new hp)) _ _ (cutV_im pv)⟩⟩
end
end UX

set_option Elab.async false
set_option linter.all false
set_option maxRecDepth 100000
set_option maxHeartbeats 4000000
set_option autoImplicit false
namespace UX
open PySem PySem.Spec PyProof.Rows L2
open EL (Ex RB BOk Bn TK rAddU rMulU rSlU rEqU rNeU rLtU rLenQ rTupQ rListQ rReprD cut)
section
variable {F : Fr} {os : Os} {as as' : SA} {st : Sto} {γ : List (U × V)} {H H' : Hp} {σ : L2.St} {δ : Dl} {v : V} {u : U} {i : Nat}
theorem mem_filt {os : Os} {p : Nat × List Addr} (h : p ∈ os.filter fun q => decide (q.1 ≠ i)) : p ∈ os ∧ p.1 ≠ i := by
  have := List.mem_filter.mp h
  exact ⟨this.1, by simpa using this.2⟩
theorem flo_filt {a : Addr} (h : a ∈ flo (os.filter fun q => decide (q.1 ≠ i))) : a ∈ flo os := by
  obtain ⟨A, m, h⟩ := List.mem_flatten.mp h
  obtain ⟨p, mp, rfl⟩ := List.mem_map.mp m
  exact mem_flo (i := p.1) (A := p.2) (mem_filt mp).1 h
theorem sub_flat {α : Type} {l l' : List (List α)} (h : l'.Sublist l) : l'.flatten.Sublist l.flatten := by
  induction h with
  | slnil => exact List.Sublist.slnil
  | @cons l1 l2 a _ ih => rw [List.flatten_cons]; exact ih.trans (List.sublist_append_right _ _)
  | @cons_cons l1 l2 a _ ih => rw [List.flatten_cons, List.flatten_cons]; exact List.Sublist.append (List.Sublist.refl _) ih
theorem SDo.drop (s : SDo F os as st γ H σ δ) (i : Nat) : SDo F (os.filter fun q => decide (q.1 ≠ i)) as st γ H σ (δ.set i none) := by
  have sb : ∀ a, H a ≠ none → ban F (os.filter fun q => decide (q.1 ≠ i)) as a → ban F os as a := fun a _ b => b.elim .inl fun b => b.elim (fun z => .inr (.inl (flo_filt z))) fun z => .inr (.inr z)
  have sl : (flo (os.filter fun q => decide (q.1 ≠ i))).Sublist (flo os) := sub_flat ((List.filter_sublist (l := os)).map _)
  refine ⟨fun p m => im_sub sb _ _ (s.gh p m), s.rel, fun a b => s.ok a (b.elim .inl fun b => b.elim (fun z => .inr (.inl (flo_filt z))) fun z => .inr (.inr z)), (List.Sublist.append sl (List.Sublist.refl _)).nodup s.nd, ((List.filter_sublist (l := os)).map _).nodup s.ix, fun a m => s.new a (flo_filt m), fun a z => s.nb a (z.imp flo_filt id),
    StOk.mono (fun _ _ h => im_sub sb _ _ h) (fun _ _ h => h) (fun _ _ => rfl) s.sto, by rw [List.length_set]; exact s.len, fun j x e => ?_⟩
  by_cases hj : i = j
  · subst hj
    have hl : i < δ.length := by have := getElem?_lt e; rwa [List.length_set] at this
    rw [List.getElem?_set_self hl] at e; cases e
  · rw [List.getElem?_set_ne hj] at e
    obtain ⟨w, h1, h2⟩ := s.at_ j x e
    refine ⟨w, h1, ?_⟩
    match x, h2 with
    | .im u, h2 => exact im_sub sb _ _ h2
    | .raw _, h2 => exact h2
    | .own sh u, ⟨A, m, h2⟩ => exact ⟨A, List.mem_filter.mpr ⟨m, by simpa using fun z => hj z.symm⟩, own_mono (fun _ _ h => im_sub sb _ _ h) (fun _ _ h => h) _ _ _ _ (fun _ _ => rfl) h2⟩
theorem SDo.own {k : Nat} {A : List Addr} {sh : Sh} (S : SDo F ((k, A) :: os) as st γ H σ δ) (hk : δ.length ≤ k) (h : ownD F.G (rts as) (ban F ((0, A) :: os) as) sh u v H A) :
    SDo F ((i, A) :: os.filter fun q => decide (q.1 ≠ i)) as st γ H (σ.set i (some v)) (δ.set i (some (.own sh u))) := by
  have fs : (List.filter (fun q => decide (q.1 ≠ i)) os).Sublist os := List.filter_sublist
  have sl : (flo (os.filter fun q => decide (q.1 ≠ i))).Sublist (flo os) := sub_flat (fs.map _)
  have bs : ∀ a, ban F ((i, A) :: os.filter fun q => decide (q.1 ≠ i)) as a → ban F ((k, A) :: os) as a := fun a b => ban_cons.mpr ((ban_cons.mp b).imp id fun b => b.elim .inl fun b => b.elim (fun z => .inr (.inl (flo_filt z))) fun z => .inr (.inr z))
  have up : ∀ u v, im F.G (rts as) (ban F ((k, A) :: os) as) u v H → im F.G (rts as) (ban F ((i, A) :: os.filter fun q => decide (q.1 ≠ i)) as) u v H := fun u v h => im_sub (fun a _ b => bs a b) _ _ h
  have nd : (A ++ (flo os ++ fl as)).Nodup := by rw [← List.append_assoc]; exact S.nd
  refine ⟨fun q m => up _ _ (S.gh q m), S.rel, fun a b => S.ok a (bs a b), ?_, List.nodup_cons.mpr ⟨fun m => ?_, (fs.map _).nodup (List.nodup_cons.mp S.ix).2⟩, fun a m => ?_, fun a z => ?_, StOk.mono up (fun _ _ h => h) (fun _ _ => rfl) S.sto, by rw [List.length_set, List.length_set, S.len], fun j x e => ?_⟩
  · show (A ++ flo _ ++ fl as).Nodup
    rw [List.append_assoc]
    exact (List.Sublist.append (List.Sublist.refl _) (List.Sublist.append sl (List.Sublist.refl _))).nodup nd
  · obtain ⟨p, mp, e⟩ := List.mem_map.mp m
    exact (mem_filt mp).2 e
  · rcases List.mem_append.mp (show a ∈ A ++ flo _ from m) with z | z
    · exact S.new a (List.mem_append_left _ z)
    · exact S.new a (List.mem_append_right A (flo_filt z))
  · refine S.nb a (z.imp (fun z => ?_) id)
    rcases List.mem_append.mp (show a ∈ A ++ flo _ from z) with z | z
    · exact List.mem_append_left _ z
    · exact List.mem_append_right A (flo_filt z)
  · by_cases hj : i = j
    · subst hj
      have hl : i < δ.length := by have := getElem?_lt e; rwa [List.length_set] at this
      rw [List.getElem?_set_self hl] at e
      cases e
      exact ⟨v, List.getElem?_set_self (by rw [S.len]; exact hl), A, List.mem_cons_self, own_mono up (fun _ _ h => h) _ _ _ _ (fun _ _ => rfl) h⟩
    · rw [List.getElem?_set_ne hj] at e
      obtain ⟨w, h1, h2⟩ := S.at_ j x e
      refine ⟨w, by rw [List.getElem?_set_ne hj]; exact h1, ?_⟩
      match x, h2 with
      | .im u, h2 => exact up _ _ h2
      | .raw _, h2 => exact h2
      | .own sh u, ⟨A', m, h2⟩ =>
        refine ⟨A', List.mem_cons_of_mem _ (List.mem_filter.mpr ⟨?_, by simpa using fun z => hj z.symm⟩), own_mono up (fun _ _ h => h) _ _ _ _ (fun _ _ => rfl) h2⟩
        rcases List.mem_cons.mp m with z | m
        · have := getElem?_lt e
          have : j = k := (Prod.mk.inj z).1
          omega
        · exact m
end
end UX

set_option Elab.async false
set_option linter.all false
set_option maxRecDepth 100000
set_option maxHeartbeats 4000000
set_option autoImplicit false
namespace UX
open PySem PySem.Spec PyProof.Rows L2
open EL (Ex RB BOk Bn TK rAddU rMulU rSlU rEqU rNeU rLtU rLenQ rTupQ rListQ rReprD cut)
def seqO {S S' L : Type} (w : M (Out S L)) (k : S → M (Out S' L)) : M (Out S' L) := .bind w fun o => match o with
  | .nx s => k s
  | .rt u => .ret (.rt u)
  | .bk l => .ret (.bk l)
  | .ct l => .ret (.ct l)
def rtO {S L : Type} (w : M U) : M (Out S L) := .bind w fun u => .ret (.rt u)
def nxO {S L : Type} (s : S) : M (Out S L) := .ret (.nx s)
def fnM (w : M (Out Unit Unit)) : M U := .bind w fun o => match o with
  | .rt u => .ret u
  | .nx _ => .ret .non
  | _ => .fail
def un2 {α : Type} (u : U) (k : U → U → M α) : M α := match u with
  | .tup [a, b] => k a b
  | _ => .fail
def un3 {α : Type} (u : U) (k : U → U → U → M α) : M α := match u with
  | .tup [a, b, c] => k a b c
  | _ => .fail
def un6 {α : Type} (u : U) (k : U → U → U → U → U → U → M α) : M α := match u with
  | .tup [a, b, c, d, e, f] => k a b c d e f
  | _ => .fail
def forO {S L : Type} (f : U → S → M (Out S S)) : List U → S → M (Out S L)
  | [], s => nxO s
  | x :: xs, s => .bind (f x s) fun o => match o with
    | .nx s' => forO f xs s'
    | .ct s' => forO f xs s'
    | .bk s' => nxO s'
    | .rt u => .ret (.rt u)
def whileN {S L : Type} (c : S → M Bool) (b : S → M (Out S S)) : Nat → S → M (Out S L)
  | 0, _ => .fail
  | n + 1, s => .bind (c s) fun t => if t = true then .bind (b s) fun o => match o with
    | .nx s' => whileN c b n s'
    | .ct s' => whileN c b n s'
    | .bk s' => nxO s'
    | .rt u => .ret (.rt u)
    else nxO s
open Classical in
noncomputable def whileO {S L : Type} (c : S → M Bool) (b : S → M (Out S S)) (s : S) : M (Out S L) := fun st => if h : ∃ n r, whileN (L := L) c b n s st = some r then whileN c b h.choose s st else none
section
variable {S S' L : Type} {c : S → M Bool} {b : S → M (Out S S)}
theorem M.bind_some {α β : Type} {w : M α} {f : α → M β} {st : Sto} {r : Res β × Sto} (h : M.bind w f st = some r) : (∃ a st1, w st = some (.ok a, st1) ∧ f a st1 = some r) ∨ ∃ e st1, w st = some (.er e, st1) ∧ r = (.er e, st1) := by
  unfold M.bind at h
  cases e : w st with
  | none => rw [e] at h; cases h
  | some p =>
    obtain ⟨q, st1⟩ := p
    rw [e] at h
    cases q with
    | ok a => exact .inl ⟨a, st1, rfl, h⟩
    | er x => exact .inr ⟨x, st1, rfl, (Option.some.inj h).symm⟩
theorem M.bind_of {α β : Type} {w : M α} {f : α → M β} {st st1 : Sto} {a : α} (h : w st = some (.ok a, st1)) : M.bind w f st = f a st1 := by
  unfold M.bind; rw [h]
theorem M.bind_er {α β : Type} {w : M α} {f : α → M β} {st st1 : Sto} {e : U} (h : w st = some (.er e, st1)) : M.bind w f st = some (.er e, st1) := by
  unfold M.bind; rw [h]
theorem whileN_succ {n : Nat} : ∀ {s : S} {st : Sto} {r : Res (Out S L) × Sto}, whileN c b n s st = some r → whileN c b (n + 1) s st = some r := by
  induction n with
  | zero => intro s st r h; cases h
  | succ n ih =>
    intro s st r h
    rw [whileN] at h ⊢
    rcases M.bind_some h with ⟨t, st1, e1, h⟩ | ⟨e, st1, e1, rfl⟩
    · rw [M.bind_of e1]
      cases t with
      | false => exact h
      | true =>
        simp only [if_true] at h ⊢
        rcases M.bind_some h with ⟨o, st2, e2, h⟩ | ⟨e, st2, e2, rfl⟩
        · rw [M.bind_of e2]
          cases o with
          | nx s' => exact ih h
          | ct s' => exact ih h
          | bk s' => exact h
          | rt u => exact h
        · rw [M.bind_er e2]
    · rw [M.bind_er e1]
theorem whileN_le {n m : Nat} (hm : n ≤ m) {s : S} {st : Sto} {r : Res (Out S L) × Sto} (h : whileN c b n s st = some r) : whileN c b m s st = some r := by
  induction hm with
  | refl => exact h
  | step _ ih => exact whileN_succ ih
theorem whileO_of {n : Nat} {s : S} {st : Sto} {r : Res (Out S L) × Sto} (h : whileN c b n s st = some r) : whileO c b s st = some r := by
  unfold whileO
  have hx : ∃ n r, whileN (L := L) c b n s st = some r := ⟨n, r, h⟩
  rw [dif_pos hx]
  obtain ⟨r', h'⟩ := hx.choose_spec
  rcases Nat.le_total n hx.choose with z | z
  · exact whileN_le z h
  · rw [h']
    have := whileN_le z h'
    rw [h] at this
    exact this.symm
theorem whileO_inv {s : S} {st : Sto} {r : Res (Out S L) × Sto} (h : whileO c b s st = some r) : ∃ n, whileN c b n s st = some r := by
  unfold whileO at h
  split at h
  · exact ⟨_, h⟩
  · cases h
end
def EvF (F : Fr) : TE → Dl → M U → Prop := EvP F fun os as _ u v H => im F.G (rts as) (ban F [] as) u v H
def EvAF (F : Fr) : TA → Dl → M (List U) → Prop := EvA F fun os as us vs H => imAll F.G (rts as) (ban F [] as) us vs H
section
variable {F : Fr} {δ : Dl} {te ta : TE} {w wa : M U}
theorem im_nil {os : Os} {as : SA} {u : U} {v : V} {H : Hp} (h : im F.G (rts as) (ban F os as) u v H) : im F.G (rts as) (ban F [] as) u v H := im_sub (fun a _ b => b.elim .inl fun b => b.elim (fun z => nomatch z) fun z => .inr (.inr z)) _ _ h
theorem im_go0 {as as' : SA} {H H' : Hp} (g : Go as as' H H') {u : U} {v : V} (h : im F.G (rts as) (ban F [] as) u v H) : im F.G (rts as') (ban F [] as') u v H' := im_go g h
theorem EvW.f (h : EvW F te δ w) : EvF F te δ w := fun os as st γ σ H a st' S q QQ k => h os as st γ σ H a st' S q QQ fun v H' as' g S' p => k v H' as' g S' (im_nil p)
theorem ef_own {i : Nat} {s : Sh} {u : U} (h : δ[i]? = some (some (.own s u))) : EvF F (tVar i) δ (.ret u) := fun os as st γ σ H a st' S q QQ k => by
  cases q
  obtain ⟨v, e, A, m, p⟩ := S.get h
  refine ⟨v, e, k v H as (Go.refl _ _) S (own_im s _ _ A (fun a z b => ?_) (own_mono (fun u v h => im_nil h) (fun _ _ h => h) _ _ _ _ (fun _ _ => rfl) p))⟩
  rcases b with b | b | b
  · exact S.nb a (.inl (mem_flo m z)) b
  · cases b
  · exact (List.nodup_append.mp S.nd).2.2 a (mem_flo m z) a b rfl
theorem eaf_nil : EvAF F tNil δ nilA := fun os as st γ σ H us st' S q QQ k => by cases q; exact k [] H as (Go.refl _ _) S rfl
theorem eaf_cons {tr : TA} {wr : M (List U)} (ha : EvF F ta δ wa) (hr : EvAF F tr δ wr) : EvAF F (tCons ta tr) δ (consA wa wr) := fun os as st γ σ H us st' S q QQ k => by
  obtain ⟨a, st1, qa, q⟩ := M.bind_inv q
  obtain ⟨r, st2, qr, q⟩ := M.bind_inv q
  cases q
  exact ha os as st γ σ H a _ S qa _ fun x H1 as1 g1 S1 px => hr os as1 st1 γ σ H1 r _ S1 qr _ fun vs H2 as2 g2 S2 pv => k (x :: vs) H2 as2 (g1.trans g2) S2 ⟨x, vs, rfl, im_go0 g2 px, pv⟩
theorem ef_tup {t : TA} {wl : M (List U)} (h : EvAF F t δ wl) : EvF F (tTup t) δ (tupW wl) := fun os as st γ σ H c st' S q QQ k => by
  obtain ⟨us, st1, qa, q⟩ := M.bind_inv q
  obtain ⟨e, rfl⟩ := M.o_inv q
  by_cases hl : us.length ≤ sizeLine
  · rw [if_pos hl] at e
    cases e
    exact h os as st γ σ H us _ S qa _ fun vs H1 as1 g1 S1 pv => ⟨by rw [imAll_len pv]; exact hl, fun p hp => k _ _ as1 (g1.trans (Go.of_ex (Ex.new hp))) (S1.ex (Ex.new hp)) ⟨p, vs, rfl, upd_same, imAll_st (RB.of_ex (Ex.new hp)) _ _ pv⟩⟩
  · rw [if_neg hl] at e; cases e
theorem SDo.rt {os : Os} {as : SA} {st : Sto} {γ : List (U × V)} {H : Hp} {σ : L2.St} {u : U} {v : V} (S : SDo F os as st γ H σ δ) (h : im F.G (rts as) (ban F [] as) u v H) (hr : F.R as st H u v) : Rt F as st H u v :=
  ⟨S.rel, fun a b => S.ok a (b.elim .inl fun b => b.elim (fun z => nomatch z) fun z => .inr (.inr z)), (List.nodup_append.mp S.nd).2.1, fun a m => S.nb a (.inr m), StOk.mono (fun _ _ h => im_nil h) (fun _ _ h => h) (fun _ _ => rfl) S.sto, h, hr⟩
end
section
variable {F : Fr} {S S1 L : Type} {δ : Dl} {te ta tb : TE} {tt : TT} {w wa wb : M U} {wt : M Bool} {t t1 t2 u1 : TS} {δn : S → Dl} {δ1 : S1 → Dl} {δl : L → Dl}
theorem blk_last {wo : M (Out S L)} (h : Blk F (tSeq t tNext) δ wo δn δl) : Blk F t δ wo δn δl := h
theorem blk_end {s : S} (h : Weak δ (δn s)) : Blk F tNext δ (nxO s) δn δl := fun D os as st γ σ H o st' Q q P => by
  cases q; exact P os as σ H (Q.weak h)
theorem blk_ret (h : EvF F te δ w) (hR : F.R = noR := by rfl) : Blk F (tRet te) δ (rtO w : M (Out S L)) δn δl := fun D os as st γ σ H o st' Q q P => by
  obtain ⟨a, st1, qa, q⟩ := M.bind_inv q
  cases q
  exact h os as st γ σ H a _ Q qa _ fun v H1 as1 g1 S1 p => P as1 v H1 (S1.rt p (by rw [hR]; trivial))
theorem blk_seq {w1 : M (Out S1 L)} {w2 : S1 → M (Out S L)} (h1 : Blk F t1 δ w1 δ1 δl) (h2 : ∀ s, Blk F t2 (δ1 s) (w2 s) δn δl) : Blk F (tSeq t1 t2) δ (seqO w1 w2) δn δl := fun D os as st γ σ H o st' Q q P => by
  obtain ⟨o1, st1, q1, q⟩ := M.bind_inv q
  refine h1 _ os as st γ σ H o1 st1 Q q1 ?_
  cases o1 with
  | nx s => exact fun os2 as2 σ2 H2 S2 => h2 s D os2 as2 st1 γ σ2 H2 o st' S2 q P
  | rt u => cases q; exact P
  | bk l => cases q; exact P
  | ct l => cases q; exact P
theorem blk_if {wo wu : M (Out S L)} (h : EvT F tt δ wt) (h1 : Blk F t1 δ wo δn δl) (h2 : Blk F t2 δ wu δn δl) : Blk F (tIfS tt t1 t2) δ (iteW wt wo wu) δn δl := fun D os as st γ σ H o st' Q q P => by
  obtain ⟨b, st1, qb, q⟩ := M.bind_inv q
  refine h os as st γ σ H b _ Q qb _ fun H1 as1 g1 S1 => ?_
  cases b with
  | true => exact h1 D os as1 st1 γ σ H1 o st' S1 q P
  | false => exact h2 D os as1 st1 γ σ H1 o st' S1 q P
theorem blk_never {e : U} : Blk F tNever δ (.raise e : M (Out S L)) δn δl := fun D os as st γ σ H o st' Q q P => by cases q
theorem blk_set {i : Nat} {k : U → M (Out S L)} (h : EvW F te δ w) (h2 : ∀ u, Blk F t2 (δ.set i (some (.im u))) (k u) δn δl) : Blk F (tSeq (tAsg te (gName i)) t2) δ (.bind w k) δn δl := fun D os as st γ σ H o st' Q q P => by
  obtain ⟨u, st1, qu, q⟩ := M.bind_inv q
  exact h os as st γ σ H u _ Q qu _ fun v H1 as1 g1 S1 p => h2 u D os as1 st1 γ _ H1 o st' (S1.set p) q P
theorem blk_own {i : Nat} {s : Sh} {k : U → M (Out S L)} (h : EvN F s te δ w) (h2 : ∀ u, Blk F t2 (δ.set i (some (.own s u))) (k u) δn δl) : Blk F (tSeq (tAsg te (gName i)) t2) δ (.bind w k) δn δl := fun D os as st γ σ H o st' Q q P => by
  obtain ⟨u, st1, qu, q⟩ := M.bind_inv q
  refine h os as st γ σ H u _ Q qu _ fun v H1 as1 A g1 S1 p n => ?_
  obtain ⟨j, hj, hl⟩ := nodup_fresh (os.map (·.1)) δ.length
  exact h2 u D _ as1 st1 γ _ H1 o st' ((S1 j hj).own hl p) q P
theorem blk_frz {i : Nat} {s : Sh} {u : U} {wo : M (Out S L)} (h : δ[i]? = some (some (.own s u))) (h2 : Blk F t (δ.set i (some (.im u))) wo δn δl) : Blk F t δ wo δn δl := fun D os as st γ σ H o st' Q q P => by
  obtain ⟨v, e, A, m, p⟩ := Q.get h
  refine h2 D (os.filter fun q => decide (q.1 ≠ i)) as st γ σ H o st' ?_ q P
  have Q1 := Q.drop i
  have hp : im F.G (rts as) (ban F (os.filter fun q => decide (q.1 ≠ i)) as) u v H := by
    have sb : ∀ a, H a ≠ none → ban F (os.filter fun q => decide (q.1 ≠ i)) as a → ban F os as a := fun a _ b => b.elim .inl fun b => b.elim (fun z => .inr (.inl (flo_filt z))) fun z => .inr (.inr z)
    refine own_im s _ _ A (fun a z b => ?_) (own_mono (fun u v h => im_sub sb u v h) (fun _ _ h => h) _ _ _ _ (fun _ _ => rfl) p)
    rcases b with b | b | b
    · exact Q.nb a (.inl (mem_flo m z)) b
    · obtain ⟨A', m', z'⟩ := List.mem_flatten.mp b
      obtain ⟨q, mq, rfl⟩ := List.mem_map.mp m'
      obtain ⟨mq, ne⟩ := mem_filt mq
      have key : ∀ (l : Os), (flo l).Nodup → (i, A) ∈ l → q ∈ l → i = q.1 := by
        intro l
        induction l with
        | nil => intro _ m; cases m
        | cons r l ih =>
          intro nd m1 m2
          have nd' := List.nodup_append.mp (show (r.2 ++ flo l).Nodup from nd)
          rcases List.mem_cons.mp m1 with e1 | m1 <;> rcases List.mem_cons.mp m2 with e2 | m2
          · rw [e2, ← e1]
          · exact absurd rfl (nd'.2.2 a (by rw [← e1]; exact z) a (mem_flo (i := q.1) (A := q.2) m2 z'))
          · exact absurd rfl (nd'.2.2 a (by rw [← e2]; exact z') a (mem_flo m1 z))
          · exact ih nd'.2.1 m1 m2
      exact ne (key os (List.nodup_append.mp Q.nd).1 m mq).symm
    · exact (List.nodup_append.mp Q.nd).2.2 a (mem_flo m z) a b rfl
  have hs : σ.set i (some v) = σ := by
    apply List.ext_getElem?
    intro j
    by_cases z : i = j
    · subst z
      rw [List.getElem?_set_self (getElem?_lt e), e]
    · rw [List.getElem?_set_ne z]
  have := Q1.set (i := i) (x := .im u) hp
  rw [hs, List.set_set] at this
  exact this
end
end UX

set_option Elab.async false
set_option linter.all false
set_option maxRecDepth 100000
set_option maxHeartbeats 4000000
set_option autoImplicit false
namespace UX
open PySem PySem.Spec PyProof.Rows L2
open EL (Ex RB BOk Bn TK rAddU rMulU rSlU rEqU rNeU rLtU rLenQ rTupQ rListQ rReprD cut iSeqU)
structure WalkU (F : Fr) (J : It) (us : List U) (gh : List (U × V)) : Prop where
  goes : ∀ i os as st γ σ δ H, i < us.length → SDo F os as st (gh ++ γ) H σ δ → J.go i H
  stops : ∀ os as st γ σ δ H, SDo F os as st (gh ++ γ) H σ δ → J.stop us.length H
  yields : ∀ i os as st γ σ δ x H H' u, us[i]? = some u → SDo F os as st (gh ++ γ) H σ δ → J.yld i H x H' → Ex H H' ∧ im F.G (rts as) (ban F os as) u x H'
def Src (F : Fr) (wi : TI) (δ : Dl) (w : M (List U)) : Prop := ∀ os as st γ σ H us st', SDo F os as st γ H σ δ → w st = some (.ok us, st') → ∀ Q : It → Hp → Prop,
  (∀ J H' as' gh, Go as as' H H' → SDo F os as' st' (gh ++ γ) H' σ δ → WalkU F J us gh → Q J H') → wi σ H Q
section
variable {F : Fr} {os : Os} {as : SA} {st : Sto} {γ : List (U × V)} {H : Hp} {σ : L2.St} {δ : Dl}
theorem SDo.ghost (S : SDo F os as st γ H σ δ) {g : List (U × V)} (h : ∀ p ∈ g, im F.G (rts as) (ban F os as) p.1 p.2 H) : SDo F os as st (g ++ γ) H σ δ :=
  ⟨fun p m => (List.mem_append.mp m).elim (h p) (S.gh p), S.rel, S.ok, S.nd, S.ix, S.new, S.nb, S.sto, S.len, S.at_⟩
theorem SDo.unghost {g : List (U × V)} (S : SDo F os as st (g ++ γ) H σ δ) : SDo F os as st γ H σ δ :=
  ⟨fun p m => S.gh p (List.mem_append_right _ m), S.rel, S.ok, S.nd, S.ix, S.new, S.nb, S.sto, S.len, S.at_⟩
end
def itU : U → Option (List U)
  | .tup us => some us
  | .lst us => some us
  | .frl us => some us
  | _ => none
def rng1U : U → Option (List U)
  | .int n => if -(2 ^ 62) ≤ n ∧ n < 2 ^ 62 then some ((List.range n.toNat).map fun i => .int (i : Nat)) else none
  | _ => none
def rng2U : U → U → Option (List U)
  | .int a, .int b => if (-(2 ^ 62) ≤ a ∧ a < 2 ^ 62) ∧ (-(2 ^ 62) ≤ b ∧ b < 2 ^ 62) then some ((List.range (b - a).toNat).map fun i => .int (a + (i : Nat))) else none
  | _, _ => none
def itW (w : M U) : M (List U) := .bind w fun u => .o (itU u)
def rng1W (w : M U) : M (List U) := .bind w fun u => .o (rng1U u)
def rng2W (w w' : M U) : M (List U) := .bind w fun u => .bind w' fun u' => .o (rng2U u u')
section
variable {F : Fr} {δ : Dl} {te ta tb : TE} {w wa wb : M U}
theorem src_it (h : EvW F te δ w) : Src F (iSeqU F.G.K te) δ (itW w) := fun os as st γ σ H us st' S q Q k => by
  obtain ⟨u, st1, qu, q⟩ := M.bind_inv q
  obtain ⟨e, rfl⟩ := M.o_inv q
  have fin : ∀ st2 v H' as', Go as as' H H' → SDo F os as' st2 γ H' σ δ → im F.G (rts as') (ban F os as') u v H' → SDo F os as' st2 ([(u, v)] ++ γ) H' σ δ := fun st2 v H' as' g S' p => S'.ghost fun q m => by rw [List.mem_singleton] at m; rw [m]; exact p
  cases u <;> simp [itU] at e
  · subst e
    refine .inr (h os as st γ σ H _ _ S qu _ fun v H' as' g S' p => ?_)
    obtain ⟨a, vs, ev, hs, hv⟩ := id p
    refine ⟨a, ev, ⟨vs, EL.sqT_of hs⟩, k _ H' as' _ g (fin _ v H' as' g S' p) ⟨fun i os as st γ σ δ H hi S2 => ?_, fun os as st γ σ δ H S2 => ?_, fun i os as st γ σ δ x H H2 u e S2 y => ?_⟩⟩ <;> obtain ⟨a2, vs2, ev2, hs2, hv2⟩ := S2.gh _ List.mem_cons_self
    · rw [ev] at ev2; cases ev2
      exact walk_tup.goes i H (by rw [imAll_len hv2]; exact hi) (EL.sqT_of (K := F.G.K) hs2)
    · rw [ev] at ev2; cases ev2
      rw [← imAll_len hv2]
      exact walk_tup.stops H (EL.sqT_of (K := F.G.K) hs2)
    · rw [ev] at ev2; cases ev2
      obtain ⟨e1, e2⟩ := walk_tup.yields i H x H2 (by rw [imAll_len hv2]; exact getElem?_lt e) (EL.sqT_of (K := F.G.K) hs2) y
      subst e1
      refine ⟨Ex.refl _, ?_⟩
      obtain ⟨z, e3, e4⟩ := imAll_get hv2 e
      rw [e2] at e3; cases e3
      exact e4
  · subst e
    refine .inl (h os as st γ σ H _ _ S qu _ fun v H' as' g S' p => ?_)
    obtain ⟨a, vs, ev, nb, hs, hv⟩ := id p
    refine ⟨a, ev, ⟨vs, EL.sqL_of hs⟩, k _ H' as' _ g (fin _ v H' as' g S' p) ⟨fun i os as st γ σ δ H hi S2 => ?_, fun os as st γ σ δ H S2 => ?_, fun i os as st γ σ δ x H H2 u e S2 y => ?_⟩⟩ <;> obtain ⟨a2, vs2, ev2, nb2, hs2, hv2⟩ := S2.gh _ List.mem_cons_self
    · rw [ev] at ev2; cases ev2
      exact walk_list.goes i H (by rw [imAll_len hv2]; exact hi) (EL.sqL_of hs2)
    · rw [ev] at ev2; cases ev2
      rw [← imAll_len hv2]
      exact walk_list.stops H (EL.sqL_of hs2)
    · rw [ev] at ev2; cases ev2
      obtain ⟨e1, e2⟩ := walk_list.yields i H x H2 (by rw [imAll_len hv2]; exact getElem?_lt e) (EL.sqL_of hs2) y
      subst e1
      refine ⟨Ex.refl _, ?_⟩
      obtain ⟨z, e3, e4⟩ := imAll_get hv2 e
      rw [e2] at e3; cases e3
      exact e4
  · subst e
    refine .inl (h os as st γ σ H _ _ S qu _ fun v H' as' g S' p => ?_)
    obtain ⟨a, vs, ev, hs, hv⟩ := id p
    refine ⟨a, ev, ⟨vs, hs.sq⟩, k _ H' as' _ g (fin _ v H' as' g S' p) ⟨fun i os as st γ σ δ H hi S2 => ?_, fun os as st γ σ δ H S2 => ?_, fun i os as st γ σ δ x H H2 u e S2 y => ?_⟩⟩ <;> obtain ⟨a2, vs2, ev2, hs2, hv2⟩ := S2.gh _ List.mem_cons_self
    · rw [ev] at ev2; cases ev2
      exact walk_list.goes i H (by rw [imAll_len hv2]; exact hi) hs2.sq
    · rw [ev] at ev2; cases ev2
      rw [← imAll_len hv2]
      exact walk_list.stops H hs2.sq
    · rw [ev] at ev2; cases ev2
      obtain ⟨e1, e2⟩ := walk_list.yields i H x H2 (by rw [imAll_len hv2]; exact getElem?_lt e) hs2.sq y
      subst e1
      refine ⟨Ex.refl _, ?_⟩
      obtain ⟨z, e3, e4⟩ := imAll_get hv2 e
      rw [e2] at e3; cases e3
      exact e4
theorem rng_walk {lo : Int} {n : Nat} : WalkU F (Itr lo n) ((List.range n).map fun i => .int (lo + (i : Nat))) [] := by
  refine ⟨fun i os as st γ σ δ H hi S2 => walk_range.goes i H (by simpa using hi) trivial, fun os as st γ σ δ H S2 => ?_, fun i os as st γ σ δ x H H2 u e S2 y => ?_⟩
  · rw [List.length_map, List.length_range]; exact walk_range.stops H trivial
  · have hi : i < n := by have := getElem?_lt e; simpa using this
    obtain ⟨e1, e2⟩ := walk_range.yields i H x H2 hi trivial y
    subst e1 e2
    refine ⟨Ex.refl _, ?_⟩
    rw [List.getElem?_map, List.getElem?_range hi] at e
    cases e
    rfl
theorem src_range1 (h : EvR F ta δ w) : Src F (iRng1 (tCons ta tNil)) δ (rng1W w) := fun os as st γ σ H us st' S q Q k => by
  obtain ⟨u, st1, qu, q⟩ := M.bind_inv q
  obtain ⟨e, rfl⟩ := M.o_inv q
  cases u with
  | int n => ?_
  | _ => cases e
  simp only [rng1U] at e
  split at e
  case isFalse => cases e
  rename_i hc
  cases e
  refine h os as st γ σ H _ _ S qu _ fun v H' as' g S' p => ⟨n, by rw [show v = _ from p], by omega, by omega, k _ H' as' [] g S' ?_⟩
  have := rng_walk (F := F) (lo := 0) (n := n.toNat)
  simp only [Int.zero_add] at this
  exact this
theorem src_range2 (ha : EvR F ta δ wa) (hb : EvR F tb δ wb) : Src F (iRng2 (tCons ta (tCons tb tNil))) δ (rng2W wa wb) := fun os as st γ σ H us st' S q Q k => by
  obtain ⟨a, st1, qa, q⟩ := M.bind_inv q
  obtain ⟨b, st2, qb, q⟩ := M.bind_inv q
  obtain ⟨e, rfl⟩ := M.o_inv q
  cases a with
  | int lo => ?_
  | _ => cases e
  cases b with
  | int hi => ?_
  | _ => cases e
  simp only [rng2U] at e
  split at e
  case isFalse => cases e
  rename_i hc
  cases e
  exact ha os as st γ σ H _ _ S qa _ fun v H1 as1 g1 S1 p => hb os as1 st1 γ σ H1 _ _ S1 qb _ fun u H2 as2 g2 S2 p2 => ⟨lo, hi, by rw [show v = _ from p, show u = _ from p2], ⟨by omega, by omega, by omega, by omega⟩, k _ H2 as2 [] (g1.trans g2) S2 rng_walk⟩
end
def wipD (δ : Dl) : List Nat → Dl
  | [] => δ
  | v :: vs => (wipD δ vs).set v none
def TgOk (F : Fr) (g : TG) (vs : List Nat) (δ : Dl) (u : U) (δ' : Dl) : Prop := wipD δ' vs = wipD δ vs ∧ ∀ os as st γ H σ v, SDo F os as st γ H σ δ → im F.G (rts as) (ban F os as) u v H → ∀ Q : L2.St → Hp → Prop, (∀ σ', wipe σ' vs = wipe σ vs → SDo F os as st γ H σ' δ' → Q σ' H) → g v σ H Q
section
variable {F : Fr} {δ : Dl} {u a b c : U}
theorem wipe_set (σ : L2.St) (i : Nat) (o : Option V) : ∀ vs : List Nat, i ∈ vs → wipe (σ.set i o) vs = wipe σ vs
  | [], h => nomatch h
  | v :: vs, h => by
    show (wipe (σ.set i o) vs).set v none = (wipe σ vs).set v none
    by_cases z : i ∈ vs
    · rw [wipe_set σ i o vs z]
    · have e : i = v := by
        rcases List.mem_cons.mp h with e | e
        · exact e
        · exact absurd e z
      subst e
      have : ∀ (σ : L2.St) (vs : List Nat), i ∉ vs → wipe (σ.set i o) vs = (wipe σ vs).set i o := by
        intro σ vs
        induction vs with
        | nil => intro _; rfl
        | cons w ws ih =>
          intro n
          show (wipe (σ.set i o) ws).set w none = ((wipe σ ws).set w none).set i o
          rw [ih fun m => n (List.mem_cons_of_mem _ m), List.set_comm _ _ (fun z => n (by rw [z]; exact List.mem_cons_self))]
      rw [this σ vs z, List.set_set]
theorem wipD_set (σ : Dl) (i : Nat) (o : Option SV) : ∀ vs : List Nat, i ∈ vs → wipD (σ.set i o) vs = wipD σ vs
  | [], h => nomatch h
  | v :: vs, h => by
    show (wipD (σ.set i o) vs).set v none = (wipD σ vs).set v none
    by_cases z : i ∈ vs
    · rw [wipD_set σ i o vs z]
    · have e : i = v := by
        rcases List.mem_cons.mp h with e | e
        · exact e
        · exact absurd e z
      subst e
      have : ∀ (σ : Dl) (vs : List Nat), i ∉ vs → wipD (σ.set i o) vs = (wipD σ vs).set i o := by
        intro σ vs
        induction vs with
        | nil => intro _; rfl
        | cons w ws ih =>
          intro n
          show (wipD (σ.set i o) ws).set w none = ((wipD σ ws).set w none).set i o
          rw [ih fun m => n (List.mem_cons_of_mem _ m), List.set_comm _ _ (fun z => n (by rw [z]; exact List.mem_cons_self))]
      rw [this σ vs z, List.set_set]
theorem tg_name {i : Nat} {vs : List Nat} (h : i ∈ vs) : TgOk F (gName i) vs δ u (δ.set i (some (.im u))) := ⟨wipD_set _ _ _ _ h, fun os as st γ H σ v S p Q k => k _ (wipe_set _ _ _ _ h) (S.set p)⟩
theorem tg_two {i j : Nat} {vs : List Nat} (hi : i ∈ vs) (hj : j ∈ vs) : TgOk F (gTup F.G.K 2 (gCons (gName i) (gCons (gName j) gNil))) vs δ (.tup [a, b]) ((δ.set i (some (.im a))).set j (some (.im b))) := ⟨by rw [wipD_set _ _ _ _ hj, wipD_set _ _ _ _ hi], fun os as st γ H σ v S ⟨p, xs, e, hs, v1, r1, e1, h1, v2, r2, e2, h2, e3⟩ Q k => by
  subst e e1 e2; cases (show r2 = [] from e3)
  exact ⟨p, _, rfl, EL.sqT_of hs, rfl, v1, _, rfl, v2, _, rfl, rfl, k _ (by rw [wipe_set _ _ _ _ hj, wipe_set _ _ _ _ hi]) ((S.set (x := .im a) h1).set (x := .im b) h2)⟩⟩
theorem tg_three {i j l : Nat} {vs : List Nat} (hi : i ∈ vs) (hj : j ∈ vs) (hl : l ∈ vs) : TgOk F (gTup F.G.K 3 (gCons (gName i) (gCons (gName j) (gCons (gName l) gNil)))) vs δ (.tup [a, b, c]) (((δ.set i (some (.im a))).set j (some (.im b))).set l (some (.im c))) := ⟨by rw [wipD_set _ _ _ _ hl, wipD_set _ _ _ _ hj, wipD_set _ _ _ _ hi], fun os as st γ H σ v S ⟨p, xs, e, hs, v1, r1, e1, h1, v2, r2, e2, h2, v3, r3, e3, h3, e4⟩ Q k => by
  subst e e1 e2 e3; cases (show r3 = [] from e4)
  exact ⟨p, _, rfl, EL.sqT_of hs, rfl, v1, _, rfl, v2, _, rfl, v3, _, rfl, rfl, k _ (by rw [wipe_set _ _ _ _ hl, wipe_set _ _ _ _ hj, wipe_set _ _ _ _ hi]) (((S.set (x := .im a) h1).set (x := .im b) h2).set (x := .im c) h3)⟩⟩
end
section
variable {F : Fr} {S L : Type} {δ : Dl} {wi : TI} {g : TG} {tb : TS} {wl : M (List U)} {δl : S → Dl} {δ2 : L → Dl}
theorem blk_for {vs : List Nat} {f : U → S → M (Out S S)} {s0 : S} (hs : Src F wi δ wl) (h0 : Weak δ (δl s0))
    (hb : ∀ u s st r, f u s st = some r → ∃ δ', TgOk F g vs (δl s) u δ' ∧ Blk F tb δ' (f u s) δl δl) : Blk F (tFor wi g tb) δ (.bind wl fun us => forO f us s0) δl δ2 := fun D os as st γ σ H o st' Q q P => by
  obtain ⟨us, st1, qs, q⟩ := M.bind_inv q
  refine hs os as st γ σ H us _ Q qs _ fun J H1 as1 gh g1 S1 W => ?_
  refine ⟨fun i m σ Hc => m = us.length - i ∧ i ≤ us.length ∧ ∃ os2 as2 st2 s, SDo F os2 as2 st2 (gh ++ γ) Hc σ (δl s) ∧ forO (L := L) f (us.drop i) s st2 = some (.ok o, st'), ⟨us.length, by simp, Nat.zero_le _, os, as1, st1, s0, S1.weak h0, by rw [List.drop_zero]; exact q⟩, ?_⟩
  rintro i m σ2 Hc ⟨rfl, hi, os2, as2, st2, s, S2, q2⟩
  by_cases hlt : i < us.length
  · right
    refine ⟨W.goes i os2 as2 st2 γ σ2 _ Hc hlt S2, ?_⟩
    have ed : us.drop i = us[i] :: us.drop (i + 1) := List.drop_eq_getElem_cons hlt
    rw [ed, forO] at q2
    obtain ⟨o1, st3, q3, q2⟩ := M.bind_inv q2
    obtain ⟨δ', tg, bk⟩ := hb us[i] s st2 _ q3
    refine ⟨fun σ' H' => ∃ m', m' < us.length - i ∧ m' = us.length - (i + 1) ∧ i + 1 ≤ us.length ∧ ∃ os2 as2 st2 s, SDo F os2 as2 st2 (gh ++ γ) H' σ' (δl s) ∧ forO (L := L) f (us.drop (i + 1)) s st2 = some (.ok o, st'), fun σ' H' ⟨m', h1, h2, h3⟩ => ⟨m', h1, h2, h3⟩, fun x H' y => ?_⟩
    obtain ⟨ex, px⟩ := W.yields i os2 as2 st2 γ σ2 _ x Hc H' us[i] (List.getElem?_eq_getElem hlt) S2 y
    refine tg.2 os2 as2 st2 (gh ++ γ) H' σ2 x (S2.ex ex) px _ fun σ3 _ S3 => bk _ os2 as2 st2 (gh ++ γ) σ3 H' o1 st3 S3 q3 ?_
    cases o1 with
    | nx s' => exact fun os4 as4 σ4 H4 S4 => ⟨us.length - (i + 1), by omega, rfl, hlt, os4, as4, st3, s', S4, q2⟩
    | ct s' => exact fun os4 as4 σ4 H4 S4 => ⟨us.length - (i + 1), by omega, rfl, hlt, os4, as4, st3, s', S4, q2⟩
    | bk s' =>
      cases q2
      exact fun os4 as4 σ4 H4 S4 => P os4 as4 σ4 H4 S4.unghost
    | rt u =>
      cases q2
      exact P
  · left
    have e : i = us.length := by omega
    subst e
    rw [List.drop_length] at q2
    cases q2
    exact ⟨W.stops os2 as2 _ γ σ2 _ Hc S2, P os2 as2 σ2 Hc S2.unghost⟩
theorem blk_while {tc : TT} {c : S → M Bool} {b : S → M (Out S S)} {s0 : S} (h0 : Weak δ (δl s0)) (hc : ∀ s, EvT F tc (δl s) (c s)) (hb : ∀ s, Blk F tb (δl s) (b s) δl δl) : Blk F (tWhile tc tb) δ (whileO c b s0) δl δ2 := fun D os as st γ σ H o st' Q q P => by
  obtain ⟨n, q⟩ := whileO_inv q
  refine ⟨fun m σ Hc => ∃ os2 as2 st2 s, SDo F os2 as2 st2 γ Hc σ (δl s) ∧ whileN (L := L) c b m s st2 = some (.ok o, st'), ⟨n, os, as, st, s0, Q.weak h0, q⟩, ?_⟩
  rintro m σ2 Hc ⟨os2, as2, st2, s, S2, q2⟩
  cases m with
  | zero => cases q2
  | succ m =>
    rw [whileN] at q2
    obtain ⟨t, st3, qt, q2⟩ := M.bind_inv q2
    refine hc s os2 as2 st2 γ σ2 Hc t _ S2 qt _ fun H3 as3 g3 S3 => ?_
    cases t with
    | false => cases q2; exact P os2 as3 σ2 H3 S3
    | true =>
      simp only [if_true] at q2 ⊢
      obtain ⟨o1, st4, q3, q2⟩ := M.bind_inv q2
      refine ⟨fun σ' H' => ∃ m', m' < m + 1 ∧ ∃ os2 as2 st2 s, SDo F os2 as2 st2 γ H' σ' (δl s) ∧ whileN (L := L) c b m' s st2 = some (.ok o, st'), fun σ' H' h => h, ?_⟩
      refine hb s _ os2 as3 st3 γ σ2 H3 o1 st4 S3 q3 ?_
      cases o1 with
      | nx s' => exact fun os4 as4 σ4 H4 S4 => ⟨m, Nat.lt_succ_self m, os4, as4, st4, s', S4, q2⟩
      | ct s' => exact fun os4 as4 σ4 H4 S4 => ⟨m, Nat.lt_succ_self m, os4, as4, st4, s', S4, q2⟩
      | bk s' =>
        cases q2
        exact fun os4 as4 σ4 H4 S4 => P os4 as4 σ4 H4 S4
      | rt u =>
        cases q2
        exact P
end
section
variable {F : Fr} {S L : Type} {δ : Dl} {te : TE} {w : M U} {t2 : TS} {δn : S → Dl} {δl : L → Dl}
theorem blk_tg {g : TG} {vs : List Nat} {k : U → M (Out S L)} (h : EvW F te δ w) (h2 : ∀ u st r, k u st = some r → ∃ δ', TgOk F g vs δ u δ' ∧ Blk F t2 δ' (k u) δn δl) : Blk F (tSeq (tAsg te g) t2) δ (.bind w k) δn δl := fun D os as st γ σ H o st' Q q P => by
  obtain ⟨u, st1, qu, q⟩ := M.bind_inv q
  refine h os as st γ σ H u _ Q qu _ fun v H1 as1 g1 S1 p => ?_
  obtain ⟨δ', tg, bk⟩ := h2 u st1 _ q
  exact tg.2 os as1 st1 γ H1 σ v S1 p _ fun σ' _ S2 => bk D os as1 st1 γ σ' H1 o st' S2 q P
theorem pat2 {α : Type} {P : Dl → M α → Prop} {i j : Nat} {vs : List Nat} (hi : i ∈ vs) (hj : j ∈ vs) {k : U → U → M α} (h : ∀ a b, P ((δ.set i (some (.im a))).set j (some (.im b))) (k a b)) : ∀ u st r, un2 u k st = some r → ∃ δ', TgOk F (gTup F.G.K 2 (gCons (gName i) (gCons (gName j) gNil))) vs δ u δ' ∧ P δ' (un2 u k) := by
  intro u st r e
  cases u <;> first | (cases e; done) | skip
  rename_i us
  match us, e with
  | [a, b], e => exact ⟨_, tg_two hi hj, h a b⟩
theorem pat3 {α : Type} {P : Dl → M α → Prop} {i j l : Nat} {vs : List Nat} (hi : i ∈ vs) (hj : j ∈ vs) (hl : l ∈ vs) {k : U → U → U → M α} (h : ∀ a b c, P (((δ.set i (some (.im a))).set j (some (.im b))).set l (some (.im c))) (k a b c)) : ∀ u st r, un3 u k st = some r → ∃ δ', TgOk F (gTup F.G.K 3 (gCons (gName i) (gCons (gName j) (gCons (gName l) gNil)))) vs δ u δ' ∧ P δ' (un3 u k) := by
  intro u st r e
  cases u <;> first | (cases e; done) | skip
  rename_i us
  match us, e with
  | [a, b, c], e => exact ⟨_, tg_three hi hj hl, h a b c⟩
end
end UX

set_option Elab.async false
set_option linter.all false
set_option maxRecDepth 100000
set_option maxHeartbeats 4000000
set_option autoImplicit false
namespace UX
open PySem PySem.Spec PyProof.Rows L2
open EL (Ex RB BOk Bn TK rAddU rMulU rSlU rEqU rNeU rLtU rLenQ rTupQ rListQ rReprD cut iSeqU)
def setOs (os : Os) (i : Nat) (A : List Addr) : Os := os.map fun p => if p.1 = i then (i, A) else p
section
variable {F : Fr} {os : Os} {as : SA} {st : Sto} {γ : List (U × V)} {H H' : Hp} {σ : L2.St} {δ : Dl} {i : Nat} {A A' : List Addr} {a : Addr}
theorem setOs_mem {p : Nat × List Addr} (h : p ∈ setOs os i A') : (p = (i, A') ∧ i ∈ os.map (·.1)) ∨ (p ∈ os ∧ p.1 ≠ i) := by
  obtain ⟨q, m, e⟩ := List.mem_map.mp h
  by_cases z : q.1 = i
  · rw [if_pos z] at e; exact .inl ⟨e.symm, List.mem_map.mpr ⟨q, m, z⟩⟩
  · rw [if_neg z] at e; subst e; exact .inr ⟨m, z⟩
theorem setOs_fst : (setOs os i A').map (·.1) = os.map (·.1) := by
  unfold setOs
  rw [List.map_map]
  apply List.map_congr_left
  intro p _
  show (if p.1 = i then (i, A') else p).1 = p.1
  split
  · rename_i h; exact h.symm
  · rfl
theorem setOs_flo {b : Addr} (h : b ∈ flo (setOs os i A')) : b ∈ A' ∨ b ∈ flo os := by
  obtain ⟨B, m, hb⟩ := List.mem_flatten.mp h
  obtain ⟨p, mp, rfl⟩ := List.mem_map.mp m
  rcases setOs_mem mp with ⟨e, _⟩ | ⟨m, _⟩
  · rw [e] at hb; exact .inl hb
  · exact .inr (mem_flo (i := p.1) (A := p.2) m hb)
theorem setOs_nodup (ix : (os.map (·.1)).Nodup) (m : (i, A) ∈ os) (nd : (flo os).Nodup) (nd' : A'.Nodup) (fr : ∀ b ∈ A', b ∈ A ∨ b ∉ flo os) : (flo (setOs os i A')).Nodup := by
  induction os with
  | nil => exact List.nodup_nil
  | cons p os ih =>
    have ix' := List.nodup_cons.mp (show (p.1 :: os.map (·.1)).Nodup from ix)
    have nd2 := List.nodup_append.mp (show (p.2 ++ flo os).Nodup from nd)
    by_cases z : p.1 = i
    · have e1 : setOs (p :: os) i A' = (i, A') :: os := by
        unfold setOs
        rw [List.map_cons, if_pos z]
        congr 1
        have : ∀ q ∈ os, (if q.1 = i then (i, A') else q) = q := fun q mq => if_neg fun e => ix'.1 (by rw [z, ← e]; exact List.mem_map_of_mem mq)
        rw [List.map_congr_left this, List.map_id']
      have e2 : (i, A) = p := by
        rcases List.mem_cons.mp m with e | m
        · exact e
        · exact absurd (List.mem_map_of_mem (f := (·.1)) m) (by rw [← z]; exact ix'.1)
      rw [e1]
      show (A' ++ flo os).Nodup
      refine List.nodup_append.mpr ⟨nd', nd2.2.1, fun b mb c mc e => ?_⟩
      subst e
      rcases fr b mb with q | q
      · exact nd2.2.2 b (by rw [← e2]; exact q) b mc rfl
      · exact q (List.mem_append_right _ mc)
    · have e1 : setOs (p :: os) i A' = p :: setOs os i A' := by
        unfold setOs
        rw [List.map_cons, if_neg z]
      have m' : (i, A) ∈ os := by
        rcases List.mem_cons.mp m with e | m
        · exact absurd (by rw [← e]) z
        · exact m
      rw [e1]
      show (p.2 ++ flo (setOs os i A')).Nodup
      refine List.nodup_append.mpr ⟨nd2.1, ih ix'.2 m' nd2.2.1 fun b mb => (fr b mb).imp id fun q w => q (List.mem_append_right _ w), fun b mb c mc e => ?_⟩
      subst e
      rcases setOs_flo mc with q | q
      · rcases fr b q with w | w
        · exact nd2.2.2 b mb b (mem_flo m' w) rfl
        · exact w (List.mem_append_left _ mb)
      · exact nd2.2.2 b mb b q rfl
structure Chg (F : Fr) (os : Os) (as : SA) (H H' : Hp) (i : Nat) (A A' : List Addr) (a : Addr) : Prop where
  m : (i, A) ∈ os
  ha : a ∈ A
  kp : ∀ b o, H b = some o → b ≠ a → H' b = some o
  al : H' a ≠ none
  hA : ∀ b ∈ A', b ∈ A ∨ H b = none
  nd : A'.Nodup
  al' : ∀ b ∈ A', H' b ≠ none
  nt : ∀ xs, H a ≠ some (.tup xs)
  nf : ∀ o u, H a ≠ some (.frz o u)
theorem Chg.rb (c : Chg F os as H H' i A A' a) : RB (ban F os as) H H' := by
  have hb : ban F os as a := .inr (.inl (mem_flo c.m c.ha))
  refine ⟨fun b o n e => c.kp b o e (fun z => n (z ▸ hb)), fun b xs e => c.kp b _ e fun z => c.nt xs (z ▸ e), fun b o u e => c.kp b _ e fun z => c.nf o u (z ▸ e), fun b _ n => ?_⟩
  by_cases z : b = a
  · rw [z]; exact c.al
  · cases e : H b with
    | none => exact absurd e n
    | some o => rw [c.kp b o e z]; exact fun q => nomatch q
theorem Chg.ban (c : Chg F os as H H' i A A' a) : ∀ b, H b ≠ none → UX.ban F (setOs os i A') as b → UX.ban F os as b := fun b n h => by
  rcases h with h | h | h
  · exact .inl h
  · rcases setOs_flo h with q | q
    · rcases c.hA b q with w | w
      · exact .inr (.inl (mem_flo c.m w))
      · exact absurd w n
    · exact .inr (.inl q)
  · exact .inr (.inr h)
theorem Chg.im (c : Chg F os as H H' i A A' a) {u : U} {v : V} (h : UX.im F.G (rts as) (UX.ban F os as) u v H) : UX.im F.G (rts as) (UX.ban F (setOs os i A') as) u v H' := by
  have h1 : UX.im F.G (rts as) (fun b => UX.ban F (setOs os i A') as b ∨ UX.ban F os as b) u v H := im_sub (fun b n z => z.elim (c.ban b n) id) _ _ h
  exact im_sub (fun b _ z => .inl z) _ _ (im_st (c.rb.sub fun _ z => .inr z) _ _ h1)
theorem Chg.imAll (c : Chg F os as H H' i A A' a) : ∀ {us : List U} {vs : List V}, UX.imAll F.G (rts as) (UX.ban F os as) us vs H → UX.imAll F.G (rts as) (UX.ban F (setOs os i A') as) us vs H'
  | [], _, h => h
  | u :: us, _, ⟨v, w, e, h1, h2⟩ => ⟨v, w, e, c.im h1, c.imAll h2⟩
theorem SDo.mut (S : SDo F os as st γ H σ δ) (c : Chg F os as H H' i A A' a) {x : Option SV} (hx : ∀ s, x = some s → ∃ sh u v, s = .own sh u ∧ σ[i]? = some (some v) ∧ ownD F.G (rts as) (ban F (setOs os i A') as) sh u v H' A') : SDo F (setOs os i A') as st γ H' σ (δ.set i x) := by
  have tp : ∀ b xs, H b = some (.tup xs) → H' b = some (.tup xs) := fun b xs h => c.rb.tup _ _ h
  have na : ∀ b, b ∈ fl as → b ≠ a := fun b m z => (List.nodup_append.mp S.nd).2.2 a (mem_flo c.m c.ha) b m z.symm
  have kq : ∀ b, ban F os as b → b ≠ a → H' b = H b := fun b hb n => by
    cases e : H b with
    | none => exact absurd e (S.ok b hb)
    | some o => exact c.kp b o e n
  have nbA : ∀ b ∈ A', ¬ F.B b := fun b m z => by
    rcases c.hA b m with w | w
    · exact S.nb b (.inl (mem_flo c.m w)) z
    · exact S.ok b (.inl z) w
  refine ⟨fun p m => c.im (S.gh p m), ?_, fun b hb => ?_, ?_, by rw [setOs_fst]; exact S.ix, fun b hb => ?_, fun b z => ?_, StOk.mono (fun _ _ h => c.im h) tp (fun b m => kq b (.inr (.inr m)) (na b m)) S.sto, by rw [List.length_set]; exact S.len, fun j s e => ?_⟩
  · refine ⟨⟨fun b o n e => ?_, fun b xs e => ?_, fun b o u e => ?_, fun b _ n => ?_⟩, S.rel.pre, S.rel.new⟩
    · exact c.kp b o (S.rel.rb.keep b o n e) fun z => by rw [z, S.new a (mem_flo c.m c.ha)] at e; cases e
    · exact c.kp b _ (S.rel.rb.tup b xs e) fun z => by rw [z, S.new a (mem_flo c.m c.ha)] at e; cases e
    · exact c.kp b _ (S.rel.rb.frz b o u e) fun z => by rw [z, S.new a (mem_flo c.m c.ha)] at e; cases e
    · exact rb_alive c.rb (S.rel.alive n)
  · rcases hb with hb | hb | hb
    · exact rb_alive c.rb (S.ok b (.inl hb))
    · rcases setOs_flo hb with q | q
      · exact c.al' b q
      · exact rb_alive c.rb (S.ok b (.inr (.inl q)))
    · exact rb_alive c.rb (S.ok b (.inr (.inr hb)))
  · have nd := List.nodup_append.mp S.nd
    refine List.nodup_append.mpr ⟨setOs_nodup S.ix c.m nd.1 c.nd fun b m => (c.hA b m).imp id fun w q => S.ok b (.inr (.inl q)) w, nd.2.1, fun b mb d md e => ?_⟩
    subst e
    rcases setOs_flo mb with q | q
    · rcases c.hA b q with w | w
      · exact nd.2.2 b (mem_flo c.m w) b md rfl
      · exact S.ok b (.inr (.inr md)) w
    · exact nd.2.2 b q b md rfl
  · rcases setOs_flo hb with q | q
    · rcases c.hA b q with w | w
      · exact S.new b (mem_flo c.m w)
      · exact S.rel.fresh w
    · exact S.new b q
  · rcases z with z | z
    · rcases setOs_flo z with q | q
      · exact nbA b q
      · exact S.nb b (.inl q)
    · exact S.nb b (.inr z)
  · by_cases hj : i = j
    · subst hj
      have hl : i < δ.length := by have := getElem?_lt e; rwa [List.length_set] at this
      rw [List.getElem?_set_self hl] at e
      obtain ⟨sh, u, v, rfl, h1, h2⟩ := hx s (Option.some.inj e)
      exact ⟨v, h1, A', List.mem_map.mpr ⟨(i, A), c.m, if_pos rfl⟩, h2⟩
    · rw [List.getElem?_set_ne hj] at e
      obtain ⟨w, h1, h2⟩ := S.at_ j s e
      refine ⟨w, h1, ?_⟩
      match s, h2 with
      | .im u, h2 => exact c.im h2
      | .raw _, h2 => exact h2
      | .own sh u, ⟨B, m, h2⟩ =>
        refine ⟨B, List.mem_map.mpr ⟨(j, B), m, if_neg fun z => hj z.symm⟩, own_mono (fun _ _ h => c.im h) tp _ _ _ _ (fun b mb => kq b (.inr (.inl (mem_flo m mb))) fun z => ?_) h2⟩
        have key : ∀ (l : Os), (flo l).Nodup → (i, A) ∈ l → (j, B) ∈ l → i = j := by
          intro l
          induction l with
          | nil => intro _ m; cases m
          | cons r l ih =>
            intro nd m1 m2
            have nd' := List.nodup_append.mp (show (r.2 ++ flo l).Nodup from nd)
            rcases List.mem_cons.mp m1 with e1 | m1 <;> rcases List.mem_cons.mp m2 with e2 | m2
            · rw [← e1] at e2; exact (Prod.mk.inj e2).1.symm
            · exact absurd rfl (nd'.2.2 a (by rw [← e1]; exact c.ha) a (mem_flo m2 (z ▸ mb)))
            · exact absurd rfl (nd'.2.2 a (by rw [← e2]; exact z ▸ mb) a (mem_flo m1 c.ha))
            · exact ih nd'.2.1 m1 m2
        exact hj (key os (List.nodup_append.mp S.nd).1 c.m m)
theorem os_nodup : ∀ (l : Os), (flo l).Nodup → (i, A) ∈ l → A.Nodup := by
  intro l
  induction l with
  | nil => intro _ m; cases m
  | cons r l ih =>
    intro nd m1
    have nd' := List.nodup_append.mp (show (r.2 ++ flo l).Nodup from nd)
    rcases List.mem_cons.mp m1 with e1 | m1
    · rw [show A = r.2 by rw [← e1]]; exact nd'.1
    · exact ih nd'.2.1 m1
theorem chg_same {o o' : HO} (m : (i, A) ∈ os) (ha : a ∈ A) (S : SDo F os as st γ H σ δ) (e : H a = some o) (nt : ∀ xs, o ≠ .tup xs) (nf : ∀ x u, o ≠ .frz x u) : Chg F os as H (upd H a o') i A A a := by
  refine ⟨m, ha, fun b u eb n => ?_, ?_, fun b mb => .inl mb, os_nodup os (List.nodup_append.mp S.nd).1 m, fun b mb => ?_, fun xs z => ?_, fun x u z => ?_⟩
  · rw [upd_ne n]; exact eb
  · rw [upd_same]; exact fun z => nomatch z
  · by_cases z : b = a
    · rw [z, upd_same]; exact fun z => nomatch z
    · rw [upd_ne z]; exact S.ok b (.inr (.inl (mem_flo m mb)))
  · rw [e] at z; exact nt xs (Option.some.inj z)
  · rw [e] at z; exact nf x u (Option.some.inj z)
theorem setOs_same (ix : (os.map (·.1)).Nodup) (m : (i, A) ∈ os) : setOs os i A = os := by
  unfold setOs
  have : ∀ q ∈ os, (if q.1 = i then (i, A) else q) = q := fun q mq => by
    by_cases z : q.1 = i
    · rw [if_pos z]
      have key : ∀ (l : Os), (l.map (·.1)).Nodup → (i, A) ∈ l → q ∈ l → (i, A) = q := by
        intro l
        induction l with
        | nil => intro _ m; cases m
        | cons r l ih =>
          intro nd m1 m2
          have nd' := List.nodup_cons.mp (show (r.1 :: l.map (·.1)).Nodup from nd)
          rcases List.mem_cons.mp m1 with e1 | m1 <;> rcases List.mem_cons.mp m2 with e2 | m2
          · rw [e1, e2]
          · exact absurd (List.mem_map_of_mem (f := (·.1)) m2) (by rw [z, show i = r.1 by rw [← e1]]; exact nd'.1)
          · exact absurd (List.mem_map_of_mem (f := (·.1)) m1) (by rw [← z, e2]; exact nd'.1)
          · exact ih nd'.2 m1 m2
      exact key os ix m mq
    · rw [if_neg z]
  rw [List.map_congr_left this, List.map_id']
theorem SDo.reix {k k' : Nat} {B : List Addr} (S : SDo F ((k, B) :: os) as st γ H σ δ) (hk : δ.length ≤ k) (hk' : k' ∉ os.map (·.1)) : SDo F ((k', B) :: os) as st γ H σ δ := by
  refine ⟨S.gh, S.rel, S.ok, S.nd, List.nodup_cons.mpr ⟨hk', (List.nodup_cons.mp S.ix).2⟩, S.new, S.nb, S.sto, S.len, fun j s e => ?_⟩
  obtain ⟨w, h1, h2⟩ := S.at_ j s e
  refine ⟨w, h1, ?_⟩
  match s, h2 with
  | .im u, h2 => exact h2
  | .raw _, h2 => exact h2
  | .own sh u, ⟨C, m, h2⟩ =>
    refine ⟨C, ?_, h2⟩
    rcases List.mem_cons.mp m with z | m
    · have := getElem?_lt e
      have : j = k := (Prod.mk.inj z).1
      omega
    · exact List.mem_cons_of_mem _ m
end
end UX

set_option Elab.async false
set_option linter.all false
set_option maxRecDepth 100000
set_option maxHeartbeats 4000000
set_option autoImplicit false
namespace UX
open PySem PySem.Spec PyProof.Rows L2
open EL (Ex RB BOk Bn TK rAddU rMulU rSlU rEqU rNeU rLtU rLenQ rTupQ rListQ rReprD cut iSeqU)
def compM (wt : U → M Bool) (we : U → M U) : List U → M (List U)
  | [] => .ret []
  | x :: xs => .bind (wt x) fun b => if b = true then .bind (we x) fun u => .bind (compM wt we xs) fun r => .ret (u :: r) else compM wt we xs
def szU (us : List U) : Option U := if us.length ≤ sizeLine then some (.lst us) else none
def lcW (wl : M (List U)) (wt : U → M Bool) (we : U → M U) : M U := .bind wl fun us => .bind (compM wt we us) fun r => .o (szU r)
def noOwn (δ : Dl) (vs : List Nat) : Bool := vs.all fun (j : Nat) => match δ[j]? with
  | some (some (.own _ _)) => false
  | some (some (.raw _)) => false
  | _ => true
section
variable {F : Fr} {os : Os} {as as' : SA} {st st' : Sto} {γ : List (U × V)} {H H' : Hp} {σ : L2.St} {δ : Dl}
theorem SDo.wipe (S : SDo F os as st γ H σ δ) : ∀ vs : List Nat, SDo F os as st γ H (L2.wipe σ vs) (wipD δ vs)
  | [] => S
  | v :: vs => (SDo.wipe S vs).unset
theorem wipe_idem (σ : L2.St) (vs : List Nat) : L2.wipe (L2.wipe σ vs) vs = L2.wipe σ vs := by
  have key : ∀ (ws : List Nat), (∀ w ∈ ws, w ∈ vs) → L2.wipe (L2.wipe σ ws) vs = L2.wipe σ vs := by
    intro ws
    induction ws with
    | nil => intro _; rfl
    | cons w ws ih =>
      intro h
      show L2.wipe ((L2.wipe σ ws).set w none) vs = _
      rw [wipe_set _ _ _ _ (h w List.mem_cons_self), ih fun x m => h x (List.mem_cons_of_mem _ m)]
  exact key vs fun _ m => m
theorem wipD_idem (δ : Dl) (vs : List Nat) : wipD (wipD δ vs) vs = wipD δ vs := by
  have key : ∀ (ws : List Nat), (∀ w ∈ ws, w ∈ vs) → wipD (wipD δ ws) vs = wipD δ vs := by
    intro ws
    induction ws with
    | nil => intro _; rfl
    | cons w ws ih =>
      intro h
      show wipD ((wipD δ ws).set w none) vs = _
      rw [wipD_set _ _ _ _ (h w List.mem_cons_self), ih fun x m => h x (List.mem_cons_of_mem _ m)]
  exact key vs fun _ m => m
theorem wipD_len (δ : Dl) : ∀ vs : List Nat, (wipD δ vs).length = δ.length
  | [] => rfl
  | v :: vs => by show ((wipD δ vs).set v none).length = _; rw [List.length_set, wipD_len δ vs]
theorem wipD_ne (δ : Dl) {j : Nat} : ∀ vs : List Nat, j ∉ vs → (wipD δ vs)[j]? = δ[j]?
  | [], _ => rfl
  | v :: vs, h => by
    show ((wipD δ vs).set v none)[j]? = _
    rw [List.getElem?_set_ne (fun z => h (by rw [← z]; exact List.mem_cons_self)), wipD_ne δ vs fun m => h (List.mem_cons_of_mem _ m)]
theorem wipe_ne (σ : L2.St) {j : Nat} : ∀ vs : List Nat, j ∉ vs → (L2.wipe σ vs)[j]? = σ[j]?
  | [], _ => rfl
  | v :: vs, h => by
    show ((L2.wipe σ vs).set v none)[j]? = _
    rw [List.getElem?_set_ne (fun z => h (by rw [← z]; exact List.mem_cons_self)), wipe_ne σ vs fun m => h (List.mem_cons_of_mem _ m)]
def ghv (σ : L2.St) (δ : Dl) (vs : List Nat) : List (U × V) := vs.filterMap fun (j : Nat) => match δ[j]?, σ[j]? with
  | some (some (.im u)), some (some v) => some (u, v)
  | _, _ => none
theorem ghv_ok (S : SDo F os as st γ H σ δ) (vs : List Nat) : ∀ p ∈ ghv σ δ vs, im F.G (rts as) (ban F os as) p.1 p.2 H := fun p m => by
  obtain ⟨j, _, e⟩ := List.mem_filterMap.mp m
  split at e
  · rename_i u v e1 e2
    cases e
    obtain ⟨w, h1, h2⟩ := S.at_ j _ e1
    rw [e2] at h1; cases h1
    exact h2
  · cases e
theorem SDo.restore {g : List (U × V)} {vs : List Nat} {os0 : Os} {as0 : SA} {st0 : Sto} {γ0 : List (U × V)} {H0 : Hp} (S0 : SDo F os0 as0 st0 γ0 H0 σ δ) (no : noOwn δ vs = true) (S : SDo F os as st (ghv σ δ vs ++ γ) H (L2.wipe σ vs) (wipD δ vs)) : SDo F os as st γ H σ δ := by
  refine ⟨fun p m => S.gh p (List.mem_append_right _ m), S.rel, S.ok, S.nd, S.ix, S.new, S.nb, S.sto, S0.len, fun j s e => ?_⟩
  by_cases hj : j ∈ vs
  · have h1 := List.all_eq_true.mp no j hj
    rw [e] at h1
    match s, h1, e with
    | .im u, _, e =>
      obtain ⟨v, h2, _⟩ := S0.at_ j _ e
      refine ⟨v, h2, S.gh (u, v) (List.mem_append_left _ (List.mem_filterMap.mpr ⟨j, hj, ?_⟩))⟩
      simp only [e, h2]
  · obtain ⟨v, h1, h2⟩ := S.at_ j s (by rw [wipD_ne _ _ hj]; exact e)
    exact ⟨v, by rw [wipe_ne _ _ hj] at h1; exact h1, h2⟩
structure LS (F : Fr) (os : Os) (k0 : Nat) (D : Addr) (as : SA) (st : Sto) (γ : List (U × V)) (H : Hp) (σ : L2.St) (δ : Dl) (accU : List U) : Prop where
  S : SDo F ((k0, [D]) :: os) as st γ H σ δ
  a : ∃ acc, H D = some (.lst acc) ∧ imAll F.G (rts as) (ban F ((k0, [D]) :: os) as) accU acc H
variable {k0 : Nat} {D : Addr} {accU : List U}
theorem LS.go (l : LS F os k0 D as st γ H σ δ accU) {σ' : L2.St} {δ' : Dl} (g : Go as as' H H') (S : SDo F ((k0, [D]) :: os) as' st' γ H' σ' δ') : LS F os k0 D as' st' γ H' σ' δ' accU := by
  obtain ⟨acc, e, h⟩ := l.a
  refine ⟨S, acc, g.rb.keep _ _ (fun m => ?_) e, imAll_go g h⟩
  exact (List.nodup_append.mp l.S.nd).2.2 D (List.mem_append_left _ List.mem_cons_self) D m rfl
theorem LS.push (l : LS F os k0 D as st γ H σ δ accU) (hk : δ.length ≤ k0) {u : U} {y : V} (p : im F.G (rts as) (ban F ((k0, [D]) :: os) as) u y H) : ∃ acc, H D = some (.lst acc) ∧ acc.length = accU.length ∧ LS F os k0 D as st γ (upd H D (.lst (acc ++ [y]))) σ δ (accU ++ [u]) := by
  obtain ⟨acc, e, h⟩ := l.a
  have c : Chg F ((k0, [D]) :: os) as H (upd H D (.lst (acc ++ [y]))) k0 [D] [D] D := chg_same List.mem_cons_self List.mem_cons_self l.S e (fun _ z => nomatch z) (fun _ _ z => nomatch z)
  have S := l.S.mut c (x := none) (fun _ z => nomatch z)
  have hi := imAll_snoc (c.imAll h) (c.im p)
  rw [setOs_same l.S.ix List.mem_cons_self] at S hi
  rw [List.set_eq_of_length_le hk] at S
  exact ⟨acc, e, imAll_len h, S, _, upd_same, hi⟩
end
section
variable {F : Fr} {δ : Dl} {wi wi1 : TI} {g g1 : TG} {tt tt1 : TT} {te : TE} {vs vs1 : List Nat} {wl : M (List U)}
theorem go_new {as : SA} {H H1 : Hp} {D : Addr} {o : HO} {as0 : SA} {H0 : Hp} (g : Go as0 as H0 H) (hD : H0 D = none) : Go as0 as H0 (upd H D o) := by
  refine ⟨⟨fun b u n e => ?_, fun b xs e => ?_, fun b x u e => ?_, fun b m n => ?_⟩, g.pre, g.new⟩
  · rw [upd_ne (ne_of_none e hD)]; exact g.rb.keep b u n e
  · rw [upd_ne (ne_of_none e hD)]; exact g.rb.tup b xs e
  · rw [upd_ne (ne_of_none e hD)]; exact g.rb.frz b x u e
  · by_cases z : b = D
    · rw [z] at n; exact absurd hD n
    · rw [upd_ne z]; exact g.alive n
theorem en_lc {wt : U → M Bool} {we : U → M U} (no : noOwn δ vs = true) (hs : Src F wi δ wl)
    (hb : ∀ u st r, wt u st = some r → ∃ δ', TgOk F g vs (wipD δ vs) u δ' ∧ EvT F tt δ' (wt u) ∧ EvW F te δ' (we u)) : EvN F (.lst .leaf) (tLc wi g tt te vs) δ (lcW wl wt we) := fun os as st γ σ H c st' S q QQ k => by
  obtain ⟨us, st1, qs, q⟩ := M.bind_inv q
  obtain ⟨r, st2, qr, q⟩ := M.bind_inv q
  obtain ⟨e, rfl⟩ := M.o_inv q
  unfold szU at e
  by_cases hsz : r.length ≤ sizeLine
  case neg => rw [if_neg hsz] at e; cases e
  rw [if_pos hsz] at e
  cases e
  refine hs os as st (ghv σ δ vs ++ γ) σ H us st1 (S.ghost (ghv_ok S vs)) qs _ fun J H1 as1 gh g1 S1 W D hD => ?_
  obtain ⟨k0, hk0, hkl⟩ := nodup_fresh (os.map (·.1)) δ.length
  have S2 := S1.grow hk0 hD (Ex.new (o := .lst []) hD) (by rw [upd_same]; exact fun z => nomatch z)
  have hD0 : H D = none := g1.fresh hD
  have hkw : (wipD δ vs).length ≤ k0 := by rw [wipD_len]; exact hkl
  refine ⟨fun i m Hc => m = us.length - i ∧ i ≤ us.length ∧ ∃ as2 st2 accU rest, Go as as2 H Hc ∧ LS F os k0 D as2 st2 (gh ++ (ghv σ δ vs ++ γ)) Hc (L2.wipe σ vs) (wipD δ vs) accU ∧ compM wt we (us.drop i) st2 = some (.ok rest, st') ∧ accU ++ rest = r,
    ⟨us.length, by simp, Nat.zero_le _, as1, st1, [], r, go_new (H1 := H) g1 hD0, ⟨S2.wipe vs, [], upd_same, rfl⟩, by rw [List.drop_zero]; exact qr, rfl⟩, ?_⟩
  rintro i m Hc ⟨rfl, hi, as2, st2, accU, rest, g2, l2, q2, er⟩
  by_cases hlt : i < us.length
  · right
    refine ⟨W.goes i _ as2 st2 _ _ _ Hc hlt l2.S, fun H' => ∃ m', m' < us.length - i ∧ m' = us.length - (i + 1) ∧ i + 1 ≤ us.length ∧ ∃ as2 st2 accU rest, Go as as2 H H' ∧ LS F os k0 D as2 st2 (gh ++ (ghv σ δ vs ++ γ)) H' (L2.wipe σ vs) (wipD δ vs) accU ∧ compM wt we (us.drop (i + 1)) st2 = some (.ok rest, st') ∧ accU ++ rest = r, fun H' ⟨m', h1, h2, h3⟩ => ⟨m', h1, h2, h3⟩, fun x H' y => ?_⟩
    have ed : us.drop i = us[i] :: us.drop (i + 1) := List.drop_eq_getElem_cons hlt
    rw [ed, compM] at q2
    obtain ⟨b, st3, q3, q2⟩ := M.bind_inv q2
    obtain ⟨δ', tg, ht, he⟩ := hb us[i] st2 _ q3
    obtain ⟨ex, px⟩ := W.yields i _ as2 st2 _ _ _ x Hc H' us[i] (List.getElem?_eq_getElem hlt) l2.S y
    have gx : Go as2 as2 Hc H' := Go.of_ex ex
    have l3 := l2.go gx (l2.S.ex ex)
    refine tg.2 _ as2 st2 _ H' _ x l3.S px _ fun σ2 wq S3 => ⟨by rw [wq, wipe_idem], ?_⟩
    have back : ∀ {as4 : SA} {st4 : Sto} {H4 : Hp}, SDo F ((k0, [D]) :: os) as4 st4 (gh ++ (ghv σ δ vs ++ γ)) H4 σ2 δ' → SDo F ((k0, [D]) :: os) as4 st4 (gh ++ (ghv σ δ vs ++ γ)) H4 (L2.wipe σ vs) (wipD δ vs) := fun S4 => by
      have := S4.wipe vs
      rw [wq, wipe_idem, tg.1, wipD_idem] at this
      exact this
    refine ht _ as2 st2 _ σ2 H' b st3 S3 q3 _ fun H3 as3 g3 S4 => ?_
    cases b with
    | false => exact ⟨us.length - (i + 1), by omega, rfl, hlt, as3, st3, accU, rest, (g2.trans gx).trans g3, l3.go g3 (back S4), q2, er⟩
    | true =>
      simp only [if_true] at q2 ⊢
      obtain ⟨u, st5, q5, q2⟩ := M.bind_inv q2
      obtain ⟨r', st6, q6, q2⟩ := M.bind_inv q2
      cases q2
      refine he _ as3 st3 _ σ2 H3 u st5 S4 q5 _ fun y H5 as5 g5 S5 py => ?_
      obtain ⟨acc, e1, e2, l5⟩ := ((l3.go g3 (back S4)).go g5 (back S5)).push hkw py
      refine ⟨acc, e1, ?_, us.length - (i + 1), by omega, rfl, hlt, as5, st5, accU ++ [u], r', go_new (H1 := H) (((g2.trans gx).trans g3).trans g5) hD0, l5, q6, by rw [List.append_assoc]; exact er⟩
      rw [e2]
      rw [← er, List.length_append, List.length_cons] at hsz
      omega
  · left
    have e : i = us.length := by omega
    subst e
    rw [List.drop_length] at q2
    cases q2
    rw [List.append_nil] at er
    subst er
    refine ⟨W.stops _ as2 _ _ _ _ Hc l2.S, ?_⟩
    obtain ⟨acc, e1, h1⟩ := l2.a
    refine k _ Hc as2 [D] g2 (fun k hk => ?_) (own_lst.mpr ⟨D, acc, rfl, rfl, e1, h1⟩) fun a m => by rw [List.mem_singleton] at m; rw [m]; exact hD0
    have : SDo F ((k0, [D]) :: os) as2 _ γ Hc σ δ := SDo.restore (g := []) (vs := vs) S no l2.S.unghost
    exact this.reix hkl hk
end
end UX

set_option Elab.async false
set_option linter.all false
set_option maxRecDepth 100000
set_option maxHeartbeats 4000000
set_option autoImplicit false
namespace UX
open PySem PySem.Spec PyProof.Rows L2
open EL (Ex RB BOk Bn TK rAddU rMulU rSlU rEqU rNeU rLtU rLenQ rTupQ rListQ rReprD cut iSeqU)
def comp2M (wt : U → M Bool) (wl : U → M (List U)) (wt1 : U → U → M Bool) (we : U → U → M U) : List U → M (List U)
  | [] => .ret []
  | x :: xs => .bind (wt x) fun b => if b = true then .bind (wl x) fun ys => .bind (compM (wt1 x) (we x) ys) fun r1 => .bind (comp2M wt wl wt1 we xs) fun r => .ret (r1 ++ r) else comp2M wt wl wt1 we xs
def lc2W (w0 : M (List U)) (wt : U → M Bool) (wl : U → M (List U)) (wt1 : U → U → M Bool) (we : U → U → M U) : M U := .bind w0 fun us => .bind (comp2M wt wl wt1 we us) fun r => .o (szU r)
section
variable {F : Fr} {δ : Dl} {wi wi1 : TI} {g g1 : TG} {tt tt1 : TT} {te : TE} {vs vs1 : List Nat} {w0 : M (List U)}
theorem wipe_sub (σ : L2.St) {vs vs1 : List Nat} (h : ∀ i ∈ vs1, i ∈ vs) : L2.wipe (L2.wipe σ vs1) vs = L2.wipe σ vs := by
  have key : ∀ (ws : List Nat), (∀ w ∈ ws, w ∈ vs) → L2.wipe (L2.wipe σ ws) vs = L2.wipe σ vs := by
    intro ws
    induction ws with
    | nil => intro _; rfl
    | cons w ws ih =>
      intro h
      show L2.wipe ((L2.wipe σ ws).set w none) vs = _
      rw [wipe_set _ _ _ _ (h w List.mem_cons_self), ih fun x m => h x (List.mem_cons_of_mem _ m)]
  exact key vs1 h
theorem wipD_sub (δ : Dl) {vs vs1 : List Nat} (h : ∀ i ∈ vs1, i ∈ vs) : wipD (wipD δ vs1) vs = wipD δ vs := by
  have key : ∀ (ws : List Nat), (∀ w ∈ ws, w ∈ vs) → wipD (wipD δ ws) vs = wipD δ vs := by
    intro ws
    induction ws with
    | nil => intro _; rfl
    | cons w ws ih =>
      intro h
      show wipD ((wipD δ ws).set w none) vs = _
      rw [wipD_set _ _ _ _ (h w List.mem_cons_self), ih fun x m => h x (List.mem_cons_of_mem _ m)]
  exact key vs1 h
theorem lc_inner {wl : M (List U)} {wt : U → M Bool} {we : U → M U} (hs : Src F wi1 δ wl) (hb : ∀ u st r, wt u st = some r → ∃ δ', TgOk F g1 vs1 (wipD δ vs1) u δ' ∧ EvT F tt1 δ' (wt u) ∧ EvW F te δ' (we u))
    {os : Os} {k0 : Nat} {D : Addr} {as : SA} {st : Sto} {γ : List (U × V)} {H : Hp} {σ : L2.St} {accU us r : List U} {st1 st2 : Sto} {as00 : SA} {H00 : Hp} (hkl : δ.length ≤ k0) (hD0 : H00 D = none) (g00 : Go as00 as H00 H) (l : LS F os k0 D as st γ H σ δ accU)
    (qs : wl st = some (.ok us, st1)) (qr : compM wt we us st1 = some (.ok r, st2)) (hsz : accU.length + r.length ≤ sizeLine) (Nx : Hp → Prop)
    (hN : ∀ Hc as2, Go as00 as2 H00 Hc → LS F os k0 D as2 st2 γ Hc (L2.wipe σ vs1) (wipD δ vs1) (accU ++ r) → Nx Hc) :
    wi1 σ H fun J1 H4 => ∃ W1 : Nat → Nat → Hp → Prop, (∃ m, W1 0 m H4) ∧ ∀ j k H, W1 j k H →
      (J1.stop j H ∧ Nx H) ∨ (J1.go j H ∧ ∃ Nx1 : Hp → Prop, (∀ H', Nx1 H' → ∃ k', k' < k ∧ W1 (j + 1) k' H') ∧ ∀ x H', J1.yld j H x H' → g1 x (L2.wipe σ vs1) H' fun σ3 H5 => L2.wipe σ3 vs1 = L2.wipe σ vs1 ∧ tt1 σ3 H5 fun b H6 =>
        if b = true then te σ3 H6 fun y H7 => ∃ acc, H7 D = some (.lst acc) ∧ acc.length < sizeLine ∧ Nx1 (upd H7 D (.lst (acc ++ [y]))) else Nx1 H6) := by
  refine hs _ as st γ σ H us st1 l.S qs _ fun J H1 as1 gh g1' S1 W => ?_
  have l1 : LS F os k0 D as1 st1 (gh ++ γ) H1 (L2.wipe σ vs1) (wipD δ vs1) accU := by
    obtain ⟨acc, e, h⟩ := l.a
    refine ⟨S1.wipe vs1, acc, g1'.rb.keep _ _ (fun m => ?_) e, imAll_go g1' h⟩
    exact (List.nodup_append.mp l.S.nd).2.2 D (List.mem_append_left _ List.mem_cons_self) D m rfl
  have hkw : (wipD δ vs1).length ≤ k0 := by rw [wipD_len]; exact hkl
  refine ⟨fun i m Hc => m = us.length - i ∧ i ≤ us.length ∧ ∃ as2 st3 acc2 rest, Go as00 as2 H00 Hc ∧ LS F os k0 D as2 st3 (gh ++ γ) Hc (L2.wipe σ vs1) (wipD δ vs1) acc2 ∧ compM wt we (us.drop i) st3 = some (.ok rest, st2) ∧ acc2 ++ rest = accU ++ r,
    ⟨us.length, by simp, Nat.zero_le _, as1, st1, accU, r, g00.trans g1', l1, by rw [List.drop_zero]; exact qr, rfl⟩, ?_⟩
  rintro i m Hc ⟨rfl, hi, as2, st3, acc2, rest, g2, l2, q2, er⟩
  by_cases hlt : i < us.length
  · right
    refine ⟨W.goes i _ as2 st3 _ _ _ Hc hlt l2.S, fun H' => ∃ m', m' < us.length - i ∧ m' = us.length - (i + 1) ∧ i + 1 ≤ us.length ∧ ∃ as2 st3 acc2 rest, Go as00 as2 H00 H' ∧ LS F os k0 D as2 st3 (gh ++ γ) H' (L2.wipe σ vs1) (wipD δ vs1) acc2 ∧ compM wt we (us.drop (i + 1)) st3 = some (.ok rest, st2) ∧ acc2 ++ rest = accU ++ r, fun H' ⟨m', h1, h2, h3⟩ => ⟨m', h1, h2, h3⟩, fun x H' y => ?_⟩
    have ed : us.drop i = us[i] :: us.drop (i + 1) := List.drop_eq_getElem_cons hlt
    rw [ed, compM] at q2
    obtain ⟨b, st4, q3, q2⟩ := M.bind_inv q2
    obtain ⟨δ', tg, ht, he⟩ := hb us[i] st3 _ q3
    obtain ⟨ex, px⟩ := W.yields i _ as2 st3 _ _ _ x Hc H' us[i] (List.getElem?_eq_getElem hlt) l2.S y
    have gx : Go as2 as2 Hc H' := Go.of_ex ex
    have l3 := l2.go gx (l2.S.ex ex)
    refine tg.2 _ as2 st3 _ H' _ x l3.S px _ fun σ2 wq S3 => ⟨by rw [wq, wipe_idem], ?_⟩
    have back : ∀ {as4 : SA} {st4 : Sto} {H4 : Hp}, SDo F ((k0, [D]) :: os) as4 st4 (gh ++ γ) H4 σ2 δ' → SDo F ((k0, [D]) :: os) as4 st4 (gh ++ γ) H4 (L2.wipe σ vs1) (wipD δ vs1) := fun S4 => by
      have := S4.wipe vs1
      rw [wq, wipe_idem, tg.1, wipD_idem] at this
      exact this
    refine ht _ as2 st3 _ σ2 H' b st4 S3 q3 _ fun H3 as3 g3 S4 => ?_
    cases b with
    | false => exact ⟨us.length - (i + 1), by omega, rfl, hlt, as3, st4, acc2, rest, (g2.trans gx).trans g3, l3.go g3 (back S4), q2, er⟩
    | true =>
      simp only [if_true] at q2 ⊢
      obtain ⟨u, st5, q5, q2⟩ := M.bind_inv q2
      obtain ⟨r', st6, q6, q2⟩ := M.bind_inv q2
      cases q2
      refine he _ as3 st4 _ σ2 H3 u st5 S4 q5 _ fun y H5 as5 g5 S5 py => ?_
      obtain ⟨acc, e1, e2, l5⟩ := ((l3.go g3 (back S4)).go g5 (back S5)).push hkw py
      refine ⟨acc, e1, ?_, us.length - (i + 1), by omega, rfl, hlt, as5, st5, acc2 ++ [u], r', go_new (H1 := H) (((g2.trans gx).trans g3).trans g5) hD0, l5, q6, by rw [List.append_assoc]; exact er⟩
      rw [e2]
      have := congrArg List.length er
      rw [List.length_append, List.length_append, List.length_cons] at this
      omega
  · left
    have e : i = us.length := by omega
    subst e
    rw [List.drop_length] at q2
    cases q2
    rw [List.append_nil] at er
    subst er
    refine ⟨W.stops _ as2 _ _ _ _ Hc l2.S, hN Hc as2 g2 ?_⟩
    obtain ⟨acc, e1, h1⟩ := l2.a
    exact ⟨l2.S.unghost, acc, e1, h1⟩
theorem en_lc2 {wt : U → M Bool} {wl : U → M (List U)} {wt1 : U → U → M Bool} {we : U → U → M U} (no : noOwn δ vs = true) (hv : ∀ i ∈ vs1, i ∈ vs) (hs : Src F wi δ w0)
    (hb : ∀ u st r, wt u st = some r → ∃ δ', TgOk F g vs (wipD δ vs) u δ' ∧ EvT F tt δ' (wt u) ∧ Src F wi1 δ' (wl u) ∧ ∀ y st r, wt1 u y st = some r → ∃ δ'', TgOk F g1 vs1 (wipD δ' vs1) y δ'' ∧ EvT F tt1 δ'' (wt1 u y) ∧ EvW F te δ'' (we u y)) :
    EvN F (.lst .leaf) (tLc2 wi g tt wi1 g1 tt1 te vs vs1) δ (lc2W w0 wt wl wt1 we) := fun os as st γ σ H c st' S q QQ k => by
  obtain ⟨us, st1, qs, q⟩ := M.bind_inv q
  obtain ⟨r, st2, qr, q⟩ := M.bind_inv q
  obtain ⟨e, rfl⟩ := M.o_inv q
  unfold szU at e
  by_cases hsz : r.length ≤ sizeLine
  case neg => rw [if_neg hsz] at e; cases e
  rw [if_pos hsz] at e
  cases e
  refine hs os as st (ghv σ δ vs ++ γ) σ H us st1 (S.ghost (ghv_ok S vs)) qs _ fun J H1 as1 gh g1 S1 W D hD => ?_
  obtain ⟨k0, hk0, hkl⟩ := nodup_fresh (os.map (·.1)) δ.length
  have S2 := S1.grow hk0 hD (Ex.new (o := .lst []) hD) (by rw [upd_same]; exact fun z => nomatch z)
  have hD0 : H D = none := g1.fresh hD
  refine ⟨fun i m Hc => m = us.length - i ∧ i ≤ us.length ∧ ∃ as2 st2 accU rest, Go as as2 H Hc ∧ LS F os k0 D as2 st2 (gh ++ (ghv σ δ vs ++ γ)) Hc (L2.wipe σ vs) (wipD δ vs) accU ∧ comp2M wt wl wt1 we (us.drop i) st2 = some (.ok rest, st') ∧ accU ++ rest = r,
    ⟨us.length, by simp, Nat.zero_le _, as1, st1, [], r, go_new (H1 := H) g1 hD0, ⟨S2.wipe vs, [], upd_same, rfl⟩, by rw [List.drop_zero]; exact qr, rfl⟩, ?_⟩
  rintro i m Hc ⟨rfl, hi, as2, st2, accU, rest, g2, l2, q2, er⟩
  by_cases hlt : i < us.length
  · right
    refine ⟨W.goes i _ as2 st2 _ _ _ Hc hlt l2.S, fun H' => ∃ m', m' < us.length - i ∧ m' = us.length - (i + 1) ∧ i + 1 ≤ us.length ∧ ∃ as2 st2 accU rest, Go as as2 H H' ∧ LS F os k0 D as2 st2 (gh ++ (ghv σ δ vs ++ γ)) H' (L2.wipe σ vs) (wipD δ vs) accU ∧ comp2M wt wl wt1 we (us.drop (i + 1)) st2 = some (.ok rest, st') ∧ accU ++ rest = r, fun H' ⟨m', h1, h2, h3⟩ => ⟨m', h1, h2, h3⟩, fun x H' y => ?_⟩
    have ed : us.drop i = us[i] :: us.drop (i + 1) := List.drop_eq_getElem_cons hlt
    rw [ed, comp2M] at q2
    obtain ⟨b, st3, q3, q2⟩ := M.bind_inv q2
    obtain ⟨δ', tg, ht, hs1, he⟩ := hb us[i] st2 _ q3
    obtain ⟨ex, px⟩ := W.yields i _ as2 st2 _ _ _ x Hc H' us[i] (List.getElem?_eq_getElem hlt) l2.S y
    have gx : Go as2 as2 Hc H' := Go.of_ex ex
    have l3 := l2.go gx (l2.S.ex ex)
    refine tg.2 _ as2 st2 _ H' _ x l3.S px _ fun σ2 wq S3 => ⟨by rw [wq, wipe_idem], ?_⟩
    have back : ∀ {as4 : SA} {st4 : Sto} {H4 : Hp} {acc : List U}, LS F os k0 D as4 st4 (gh ++ (ghv σ δ vs ++ γ)) H4 σ2 δ' acc → LS F os k0 D as4 st4 (gh ++ (ghv σ δ vs ++ γ)) H4 (L2.wipe σ vs) (wipD δ vs) acc := fun l4 => by
      have := l4.S.wipe vs
      rw [wq, wipe_idem, tg.1, wipD_idem] at this
      exact ⟨this, l4.a⟩
    have dl : δ'.length = δ.length := by
      have := congrArg List.length tg.1
      rw [wipD_len, wipD_len, wipD_len] at this
      exact this
    refine ht _ as2 st2 _ σ2 H' b st3 S3 q3 _ fun H3 as3 g3 S4 => ?_
    have l4 : LS F os k0 D as3 st3 (gh ++ (ghv σ δ vs ++ γ)) H3 σ2 δ' accU := (l3.go (Go.refl _ _) S3).go g3 S4
    cases b with
    | false => exact ⟨us.length - (i + 1), by omega, rfl, hlt, as3, st3, accU, rest, (g2.trans gx).trans g3, back l4, q2, er⟩
    | true =>
      simp only [if_true] at q2 ⊢
      obtain ⟨ys, st5, q5, q2⟩ := M.bind_inv q2
      obtain ⟨r1, st6, q6, q2⟩ := M.bind_inv q2
      obtain ⟨r', st7, q7, q2⟩ := M.bind_inv q2
      cases q2
      refine lc_inner hs1 he (by rw [dl]; exact hkl) hD0 ((g2.trans gx).trans g3) l4 q5 q6 ?_ _ fun Hd as8 g8 l8 => ?_
      · rw [← er, List.length_append, List.length_append] at hsz
        omega
      · refine ⟨us.length - (i + 1), by omega, rfl, hlt, as8, st6, accU ++ r1, r', g8, ?_, q7, by rw [List.append_assoc]; exact er⟩
        have := l8.S.wipe vs
        rw [wipe_sub _ hv, wq, wipe_idem, wipD_sub _ hv, tg.1, wipD_idem] at this
        exact ⟨this, l8.a⟩
  · left
    have e : i = us.length := by omega
    subst e
    rw [List.drop_length] at q2
    cases q2
    rw [List.append_nil] at er
    subst er
    refine ⟨W.stops _ as2 _ _ _ _ Hc l2.S, ?_⟩
    obtain ⟨acc, e1, h1⟩ := l2.a
    refine k _ Hc as2 [D] g2 (fun k hk => ?_) (own_lst.mpr ⟨D, acc, rfl, rfl, e1, h1⟩) fun a m => by rw [List.mem_singleton] at m; rw [m]; exact hD0
    have : SDo F ((k0, [D]) :: os) as2 _ γ Hc σ δ := SDo.restore (g := []) (vs := vs) S no l2.S.unghost
    exact this.reix hkl hk
end
end UX

set_option Elab.async false
set_option linter.all false
set_option maxRecDepth 100000
set_option maxHeartbeats 4000000
set_option autoImplicit false
namespace UX
open PySem PySem.Spec PyProof.Rows L2
open EL (Ex RB BOk Bn TK FnG okG)
theorem Weak.refl : ∀ δ : Dl, Weak δ δ
  | [] => trivial
  | none :: δ => Weak.refl δ
  | some x :: δ => ⟨rfl, Weak.refl δ⟩
theorem Weak.trans : ∀ {a b c : Dl}, Weak a b → Weak b c → Weak a c
  | [], [], [], _, _ => trivial
  | _ :: a, none :: b, none :: c, h, k => Weak.trans (a := a) (b := b) (c := c) h k
  | _ :: a, some _ :: b, none :: c, h, k => Weak.trans (a := a) (b := b) (c := c) h.2 k
  | _ :: a, some _ :: b, some _ :: c, h, k => ⟨h.1.trans k.1, Weak.trans (a := a) (b := b) (c := c) h.2 k.2⟩
  | _ :: a, none :: b, some _ :: c, _, k => nomatch k.1
  | [], [], _ :: _, _, k => k.elim
  | [], _ :: _, _, h, _ => h.elim
  | _ :: _, [], _, h, _ => nomatch h
  | _ :: _, none :: _, [], _, k => nomatch k
  | _ :: _, some _ :: _, [], _, k => nomatch k
theorem weak_set : ∀ (δ : Dl) (i : Nat), Weak δ (δ.set i none)
  | [], _ => trivial
  | x :: δ, 0 => Weak.refl δ
  | none :: δ, i + 1 => weak_set δ i
  | some _ :: δ, i + 1 => ⟨rfl, weak_set δ i⟩
theorem weak_wip (δ : Dl) : ∀ vs : List Nat, Weak δ (wipD δ vs)
  | [] => Weak.refl δ
  | v :: vs => (weak_wip δ vs).trans (weak_set _ v)
section
variable {F : Fr} {S S1 L : Type} {δ : Dl} {wi : TI} {g : TG} {tb t1 t2 t : TS} {wl : M (List U)} {δ2 : L → Dl} {δn : S → Dl} {δl : L → Dl} {tt : TT} {wt : M Bool}
theorem blk_fin (vs : List Nat) {s : S} (h : wipD δ vs = δn s) : Blk F tNext δ (nxO s) δn δl := blk_end (h ▸ weak_wip δ vs)
end
def spM (G : Cxt) (f : List U → M U) : Sp := fun vs H Q _ => ∃ (B : Bn) (as : SA) (st : Sto) (us : List U) (u : U) (st' : Sto),
  BOk (ban ⟨G, B, H, as, noR⟩ [] as) H ∧ (fl as).Nodup ∧ (∀ a ∈ fl as, ¬ B a) ∧ StOk G (ban ⟨G, B, H, as, noR⟩ [] as) (rts as) as st H ∧ imAll G (rts as) (ban ⟨G, B, H, as, noR⟩ [] as) us vs H ∧ f us st = some (.ok u, st') ∧
  ∀ as' v H', Rt ⟨G, B, H, as, noR⟩ as' st' H' u v → Q v H'
def stD (N : List Str) (us : List U) : Dl := us.map (fun u => some (.im u)) ++ List.replicate (N.length - us.length) none
theorem SDo.start {F : Fr} {st : Sto} {N : List Str} {us : List U} {vs : List V} (ok : BOk (ban F [] F.as0) F.H0) (nd : (fl F.as0).Nodup) (nb : ∀ a ∈ fl F.as0, ¬ F.B a) (sto : StOk F.G (ban F [] F.as0) (rts F.as0) F.as0 st F.H0) (h : imAll F.G (rts F.as0) (ban F [] F.as0) us vs F.H0) :
    SDo F [] F.as0 st [] F.H0 (start N vs) (stD N us) := by
  have hl := imAll_len h
  refine ⟨fun p m => (nomatch m), Go.refl _ _, ok, by simpa [flo] using nd, by simp, fun a m => (nomatch (show a ∈ ([] : List Addr) from m)), fun a z => z.elim (fun m => nomatch (show a ∈ ([] : List Addr) from m)) (nb a), sto, ?_, fun i s e => ?_⟩
  · unfold L2.start stD
    rw [List.length_append, List.length_append, List.length_map, List.length_map, List.length_replicate, List.length_replicate, hl]
  · unfold stD at e
    by_cases hi : i < us.length
    · rw [List.getElem?_append_left (by rw [List.length_map]; exact hi), List.getElem?_map, List.getElem?_eq_getElem hi] at e
      have e2 : SV.im us[i] = s := by simpa using e
      obtain ⟨v, h1, h2⟩ := imAll_get h (List.getElem?_eq_getElem hi)
      subst e2
      refine ⟨v, ?_, h2⟩
      unfold L2.start
      rw [List.getElem?_append_left (by rw [List.length_map, hl]; exact hi), List.getElem?_map, h1]
      rfl
    · rw [List.getElem?_append_right (by rw [List.length_map]; omega), List.getElem?_replicate] at e
      split at e <;> simp at e
def dnil (N : List Str) : Dl := List.replicate N.length none
section
variable {P : Program} {w : World} {K : PySem.W.Frag} {mg : Str → Option Value} {bs : Heap} {CX : CXT} {x qu : Str} {pa : Arguments} {bo : List Stmt} {sc : Scope} {dv : List V} {kw : List (Str × V)} {f : Addr} {fd : FuncData}
theorem fn_ok {at_ : Str → Addr} {N ps : List Str} {k : Nat} {fM : List U → M U} (Fd : FunD K x qu pa bo sc dv kw f fd) (Sc : FnScope N ps sc)
    (hlen : ∀ us st r, fM us st = some r → us.length = ps.length)
    (hb : ∀ (cv : Value) (A : Around) (o : List Env) (s : Shared) (H : Hp) (E : XK), A.guards = some [] → Room k (A.deeper (envOfC qu sc s.heap.objs.size f cv)) →
      ∃ t, PSs (cxOf CX P w K mg bs N qu sc f cv A o s H E) bo t ∧ ∀ B H0 as0 us st r, fM us st = some r → ∃ wo : M (Out Unit Unit), fM us = fnM wo ∧ Blk ⟨⟨K, at_⟩, B, H0, as0, noR⟩ t (stD N us) wo (fun _ => dnil N) (fun _ => dnil N)) :
    FnG P w K mg bs CX (k + 1) f fd ps (spM ⟨K, at_⟩ fM) := by
  refine okG Fd Sc (fun vs H Q E h => ?_) fun cv A o s H vs Q E gd rm hsp => ?_
  · obtain ⟨B, as, st, us, u, st', _, _, _, _, hi, hf, _⟩ := h
    rw [imAll_len hi]
    exact hlen us st _ hf
  · obtain ⟨B, as, st, us, u, st', ok, nd, nb, sto, hi, hf, kk⟩ := hsp
    obtain ⟨t, ht, hB⟩ := hb cv A o s H E gd rm
    refine ⟨t, ht, ?_⟩
    obtain ⟨wo, e, bl⟩ := hB B H as us st _ hf
    rw [e] at hf
    obtain ⟨o', st1, q1, q⟩ := M.bind_inv hf
    refine bl _ [] as st [] _ H o' st1 (SDo.start (F := ⟨⟨K, at_⟩, B, H, as, noR⟩) ok nd nb sto hi) q1 ?_
    cases o' with
    | rt u' => cases q; exact fun as' v H' r => kk as' v H' r
    | nx _ => cases q; exact fun os as' σ H' S => kk as' _ H' (S.rt rfl trivial)
    | bk _ => cases q
    | ct _ => cases q
end
section
variable {α : Type}
def L0 (f : M U) : List U → M U
  | [] => f
  | _ => .fail
def L1 (f : U → M U) : List U → M U
  | [a] => f a
  | _ => .fail
def L2' (f : U → U → M U) : List U → M U
  | [a, b] => f a b
  | _ => .fail
def L3 (f : U → U → U → M U) : List U → M U
  | [a, b, c] => f a b c
  | _ => .fail
def L4 (f : U → U → U → U → M U) : List U → M U
  | [a, b, c, d] => f a b c d
  | _ => .fail
def L5 (f : U → U → U → U → U → M U) : List U → M U
  | [a, b, c, d, e] => f a b c d e
  | _ => .fail
def L6 (f : U → U → U → U → U → U → M U) : List U → M U
  | [a, b, c, d, e, g] => f a b c d e g
  | _ => .fail
def L7 (f : U → U → U → U → U → U → U → M U) : List U → M U
  | [a, b, c, d, e, g, h] => f a b c d e g h
  | _ => .fail
variable {P : List U → Prop}
theorem ar1 {f : U → M U} (h : ∀ a, P [a]) : ∀ us st r, L1 f us st = some r → P us
  | [a], _, _, _ => h a
  | [], _, _, e => nomatch e
  | _ :: _ :: _, _, _, e => nomatch e
theorem ar2 {f : U → U → M U} (h : ∀ a b, P [a, b]) : ∀ us st r, L2' f us st = some r → P us
  | [a, b], _, _, _ => h a b
  | [], _, _, e => nomatch e
  | [_], _, _, e => nomatch e
  | _ :: _ :: _ :: _, _, _, e => nomatch e
theorem ar3 {f : U → U → U → M U} (h : ∀ a b c, P [a, b, c]) : ∀ us st r, L3 f us st = some r → P us
  | [a, b, c], _, _, _ => h a b c
  | [], _, _, e => nomatch e
  | [_], _, _, e => nomatch e
  | [_, _], _, _, e => nomatch e
  | _ :: _ :: _ :: _ :: _, _, _, e => nomatch e
theorem ar6 {f : U → U → U → U → U → U → M U} (h : ∀ a b c d e g, P [a, b, c, d, e, g]) : ∀ us st r, L6 f us st = some r → P us
  | [a, b, c, d, e, g], _, _, _ => h a b c d e g
  | [], _, _, e => nomatch e
  | [_], _, _, e => nomatch e
  | [_, _], _, _, e => nomatch e
  | [_, _, _], _, _, e => nomatch e
  | [_, _, _, _], _, _, e => nomatch e
  | [_, _, _, _, _], _, _, e => nomatch e
  | _ :: _ :: _ :: _ :: _ :: _ :: _ :: _, _, _, e => nomatch e
theorem ar7 {f : U → U → U → U → U → U → U → M U} (h : ∀ a b c d e g i, P [a, b, c, d, e, g, i]) : ∀ us st r, L7 f us st = some r → P us
  | [a, b, c, d, e, g, i], _, _, _ => h a b c d e g i
  | [], _, _, e => nomatch e
  | [_], _, _, e => nomatch e
  | [_, _], _, _, e => nomatch e
  | [_, _, _], _, _, e => nomatch e
  | [_, _, _, _], _, _, e => nomatch e
  | [_, _, _, _, _], _, _, e => nomatch e
  | [_, _, _, _, _, _], _, _, e => nomatch e
  | _ :: _ :: _ :: _ :: _ :: _ :: _ :: _ :: _, _, _, e => nomatch e
end
section
variable {G : Cxt} {rs : List Addr} {B B' : Bn} {H : Hp}
end
def opq (st : Sto) : Sto := (List.range st.length).map fun i => U.loc i
def callM (f : List U → M U) (wa : M (List U)) : M U := .bind wa f
section
variable {F : Fr} {δ : Dl} {ta : TA} {wa : M (List U)} {E : XK} {f : List U → M U}
theorem SDo.enter {os : Os} {as : SA} {st : Sto} {γ : List (U × V)} {H : Hp} {σ : L2.St} (S : SDo F os as st γ H σ δ) : BOk (ban ⟨F.G, fun a => F.B a ∨ a ∈ flo os, H, as, noR⟩ [] as) H ∧ (∀ a ∈ fl as, ¬ (F.B a ∨ a ∈ flo os)) ∧ (∀ a, ban ⟨F.G, fun a => F.B a ∨ a ∈ flo os, H, as, noR⟩ [] as a ↔ ban F os as a) := by
  have e : ∀ a, ban ⟨F.G, fun a => F.B a ∨ a ∈ flo os, H, as, noR⟩ [] as a ↔ ban F os as a := fun a => by
    constructor
    · rintro ((h | h) | h | h)
      · exact .inl h
      · exact .inr (.inl h)
      · cases h
      · exact .inr (.inr h)
    · rintro (h | h | h)
      · exact .inl (.inl h)
      · exact .inl (.inr h)
      · exact .inr (.inr h)
  exact ⟨fun a b => S.ok a ((e a).mp b), fun a m z => z.elim (S.nb a (.inr m)) fun z => (List.nodup_append.mp S.nd).2.2 a z a m rfl, e⟩
theorem SDo.leave {os : Os} {as as' : SA} {st st' : Sto} {γ : List (U × V)} {H H' : Hp} {σ : L2.St} {u : U} {v : V} (S : SDo F os as st γ H σ δ) (r : Rt ⟨F.G, fun a => F.B a ∨ a ∈ flo os, H, as, noR⟩ as' st' H' u v) : SDo F os as' st' γ H' σ δ ∧ im F.G (rts as') (ban F os as') u v H' := by
  have e : ∀ a, ban F os as' a → ban ⟨F.G, fun a => F.B a ∨ a ∈ flo os, H, as, noR⟩ [] as' a := by
    rintro a (h | h | h)
    · exact .inl (.inl h)
    · exact .inl (.inr h)
    · exact .inr (.inr h)
  refine ⟨S.go r.rel r.nd (StOk.mono (fun _ _ h => im_sub (fun a _ b => e a b) _ _ h) (fun _ _ h => h) (fun _ _ => rfl) r.sto) fun a m => r.ok a (.inr (.inr m)), im_sub (fun a _ b => e a b) _ _ r.im⟩
theorem ev_call (h : EvAW F ta δ wa) : EvW F (tCall (spM F.G f) [] E ta) δ (callM f wa) := fun os as st γ σ H c st' S q QQ k => by
  obtain ⟨us, st1, qa, q⟩ := M.bind_inv q
  refine h os as st γ σ H us st1 S qa _ fun vs H1 as1 g1 S1 pv => ?_
  show spM F.G f (vs ++ []) H1 QQ E
  rw [List.append_nil]
  obtain ⟨ok, nb, e⟩ := S1.enter
  refine ⟨fun a => F.B a ∨ a ∈ flo os, as1, st1, us, c, st', ok, (List.nodup_append.mp S1.nd).2.1, nb, StOk.mono (fun _ _ h => im_sub (fun a _ b => (e a).mp b) _ _ h) (fun _ _ h => h) (fun _ _ => rfl) S1.sto, imAll_sub (fun a _ b => (e a).mp b) _ _ pv, q, fun as' v H' r => ?_⟩
  obtain ⟨S2, p⟩ := S1.leave r
  exact k v H' as' (g1.trans r.rel) S2 p
theorem StOk.opq {G : Cxt} {B : Bn} {H : Hp} (as : SA) (st : Sto) (h : as.length = st.length) : StOk G B (rts as) (as.map fun p => (p.1, [])) (opq st) H := by
  have key : ∀ (l : SA) (n m : Nat), l.length = m → (∀ i a, (rts l)[i]? = some a → (rts as)[n + i]? = some a) → StOk G B (rts as) (l.map fun p => (p.1, [])) ((List.range' n m).map fun i => U.loc i) H := by
    intro l
    induction l with
    | nil => intro n m e _; cases e; trivial
    | cons p l ih =>
      intro n m e hh
      cases m with
      | zero => cases e
      | succ m =>
        rw [List.range'_succ]
        refine ⟨⟨rfl, p.1, ?_, rfl⟩, ih (n + 1) m (by simpa using e) fun i a q => ?_⟩
        · have := hh 0 p.1 rfl
          simpa using this
        · have := hh (i + 1) a (by simpa [rts] using q)
          rw [show n + 1 + i = n + (i + 1) by omega]
          exact this
  have := key as 0 st.length h fun i a q => by rw [Nat.zero_add]; exact q
  rw [← List.range_eq_range'] at this
  exact this
theorem fl_opq (as : SA) : fl (as.map fun p => (p.1, ([] : List Addr))) = [] := by
  unfold fl
  rw [List.map_map]
  induction as with
  | nil => rfl
  | cons p as ih => rw [List.map_cons, List.flatten_cons, ih]; rfl
theorem rts_opq (as : SA) : rts (as.map fun p => (p.1, ([] : List Addr))) = rts as := by
  unfold rts
  rw [List.map_map]
  rfl
end
end UX

set_option Elab.async false
set_option linter.all false
set_option maxRecDepth 100000
set_option maxHeartbeats 4000000
set_option autoImplicit false
namespace UX
open PySem PySem.Spec PyProof.Rows L2
open EL (Ex RB BOk Bn TK rEqU rNeU rLtU iSeqU)
abbrev Hl := U × (U → U)
structure Hole (F : Fr) (os : Os) (as : SA) (i : Nat) (S : Sh) (σ : L2.St) (H : Hp) (s : Sh) (h : Hl) (v : V) : Prop where
  ex : ∃ A A1 A' A2 v0, (i, A) ∈ os ∧ σ[i]? = some (some v0) ∧ A = A1 ++ (A' ++ A2) ∧ ownD F.G (rts as) (ban F os as) s h.1 v H A' ∧
    ∀ rs2 B2 H2 u2 A'2, (∀ u v, im F.G (rts as) (ban F os as) u v H → im F.G rs2 B2 u v H2) → (∀ a xs, H a = some (.tup xs) → H2 a = some (.tup xs)) → (∀ a, a ∈ A1 ∨ a ∈ A2 → H2 a = H a) →
      ownD F.G rs2 B2 s u2 v H2 A'2 → ownD F.G rs2 B2 S (h.2 u2) v0 H2 (A1 ++ (A'2 ++ A2))
def EvH (F : Fr) (i : Nat) (S s : Sh) (te : TE) (δ : Dl) (w : M Hl) : Prop := ∀ os as st γ σ H h st', SDo F os as st γ H σ δ → w st = some (.ok h, st') → ∀ QQ : VK, (∀ v H' as', Go as as' H H' → SDo F os as' st' γ H' σ δ → Hole F os as' i S σ H' s h v → QQ v H') → te σ H QQ
section
variable {F : Fr} {os : Os} {as as' : SA} {st : Sto} {γ : List (U × V)} {i : Nat} {S s : Sh} {σ : L2.St} {H H' : Hp} {h : Hl} {v : V} {δ : Dl}
theorem Hole.go (hl : Hole F os as i S σ H s h v) (Q : SDo F os as st γ H σ δ) (g : Go as as' H H') : Hole F os as' i S σ H' s h v := by
  obtain ⟨A, A1, A', A2, v0, m, e0, eA, o, pl⟩ := hl.ex
  have al : ∀ a ∈ A, H a ≠ none := fun a z => Q.ok a (.inr (.inl (mem_flo m z)))
  have nf : ∀ a ∈ A, a ∉ fl as := fun a z q => (List.nodup_append.mp Q.nd).2.2 a (mem_flo m z) a q rfl
  have kp : ∀ a ∈ A, H' a = H a := fun a z => by
    cases e : H a with
    | none => exact absurd e (al a z)
    | some o => exact g.rb.keep a o (nf a z) e
  have inA : ∀ a ∈ A', a ∈ A := fun a z => by rw [eA]; exact List.mem_append_right _ (List.mem_append_left _ z)
  refine ⟨A, A1, A', A2, v0, m, e0, eA, own_go g o (fun a z => nf a (inA a z)) fun a z => al a (inA a z), fun rs2 B2 H2 u2 A'2 t1 t2 t3 o2 => ?_⟩
  exact pl rs2 B2 H2 u2 A'2 (fun u v z => t1 u v (im_go g z)) (fun a xs z => t2 a xs (sqT_go g z)) (fun a z => by rw [t3 a z, kp a (by rw [eA]; exact z.elim (fun z => List.mem_append_left _ z) fun z => List.mem_append_right _ (List.mem_append_right _ z))]) o2
theorem eh_slot {u : U} (hd : δ[i]? = some (some (.own S u))) : EvH F i S S (tVar i) δ (.ret (u, id)) := fun os as st γ σ H h st' Q q QQ k => by
  cases q
  obtain ⟨v, e, A, m, p⟩ := Q.get hd
  refine ⟨v, e, k v H as (Go.refl _ _) Q ⟨A, [], A, [], v, m, e, by simp, p, fun rs2 B2 H2 u2 A'2 _ _ _ o2 => by simpa using o2⟩⟩
def ixH (h : Hl) : U → Option Hl
  | .int n => match h.1 with
    | .lst us => match ixN us.length n with
      | some j => match us[j]? with
        | some u => some (u, fun x => h.2 (.lst (us.set j x)))
        | none => none
      | none => none
    | .tup us => match ixN us.length n with
      | some j => match us[j]? with
        | some u => some (u, fun x => h.2 (.tup (us.set j x)))
        | none => none
      | none => none
    | _ => none
  | _ => none
theorem ixN_eq {α : Type} {us : List α} {i : Int} {j : Nat} {x : α} (e : ixN us.length i = some j) (h : us[j]? = some x) : atI us i = some x := by
  unfold atI; rw [e]; exact h
end
end UX

set_option Elab.async false
set_option linter.all false
set_option maxRecDepth 100000
set_option maxHeartbeats 4000000
set_option autoImplicit false
namespace UX
open PySem PySem.Spec PyProof.Rows L2
open EL (Ex RB BOk Bn TK rEqU rNeU rLtU iSeqU)
def EvX (F : Fr) (i : Nat) (S : Sh) (te : TE) (δ : Dl) (w : M (U × U)) : Prop := ∀ os as st γ σ H a st', SDo F os as st γ H σ δ → w st = some (.ok a, st') → ∀ QQ : VK, (∀ v H' os' as', SDo F os' as' st' γ H' σ (δ.set i (some (.own S a.2))) → im F.G (rts as') (ban F os' as') a.1 v H' → QQ v H') → te σ H QQ
def MutL (F : Fr) (r : V → List V → Hp → VK → Prop) (f : List U → List U → Option (U × List U)) : Prop := ∀ os as H a vs us xs ws p, H a = some (.lst vs) → imAll F.G (rts as) (ban F os as) us vs H → imAll F.G (rts as) (ban F os as) xs ws H → f us xs = some p →
  ∃ v vs', imAll F.G (rts as) (ban F os as) p.2 vs' H ∧ im F.G (rts as) (ban F os as) p.1 v H ∧ ∀ Q : VK, Q v (upd H a (.lst vs')) → r (.ref a) ws H Q
def mutL (f : List U → List U → Option (U × List U)) (h : Hl) (xs : List U) : Option (U × U) := match h.1 with
  | .lst us => (f us xs).map fun p => (p.1, h.2 (.lst p.2))
  | _ => none
def appL : List U → List U → Option (U × List U)
  | us, [x] => if us.length < sizeLine then some (.non, us ++ [x]) else none
  | _, _ => none
def extL : List U → List U → Option (U × List U)
  | us, [.lst xs] => if us.length + xs.length ≤ sizeLine then some (.non, us ++ xs) else none
  | _, _ => none
section
variable {F : Fr} {S L : Type} {δ : Dl} {i j : Nat} {Sh0 : Sh} {te tp tv ty : TE} {ta : TA} {t2 : TS} {δn : S → Dl} {δl : L → Dl}
theorem im1 {G : Cxt} {rs : List Addr} {B : Bn} {H : Hp} {x : U} {ws : List V} (h : imAll G rs B [x] ws H) : ∃ y, ws = [y] ∧ im G rs B x y H := by
  obtain ⟨y, r, e, h1, h2⟩ := h
  cases (show r = [] from h2)
  exact ⟨y, e, h1⟩
theorem mut_app : MutL F rAppend appL := fun os as H a vs us xs ws p e h hx q => by
  rcases xs with _ | ⟨x, _ | ⟨x2, xs⟩⟩
  · cases q
  · obtain ⟨y, rfl, hy⟩ := im1 hx
    simp only [appL] at q
    split at q
    · rename_i hl
      cases q
      exact ⟨.non, vs ++ [y], imAll_snoc h hy, rfl, fun Q k => ⟨a, vs, y, rfl, rfl, e, by rw [imAll_len h]; exact hl, k⟩⟩
    · cases q
  · cases q
theorem mut_ext : MutL F rExtend extL := fun os as H a vs us xs ws p e h hx q => by
  rcases xs with _ | ⟨x, _ | ⟨x2, xs⟩⟩
  · cases q
  · obtain ⟨y, rfl, hy⟩ := im1 hx
    cases x with
    | lst xs =>
      obtain ⟨b, zs, rfl, _, hb, hz⟩ := hy
      simp only [extL] at q
      split at q
      · rename_i hl
        cases q
        exact ⟨.non, vs ++ zs, imAll_append h hz, rfl, fun Q k => ⟨a, b, vs, zs, rfl, rfl, e, hb, by rw [imAll_len h, imAll_len hz]; exact hl, k⟩⟩
      · cases q
    | _ => cases q
  · cases x <;> cases q
theorem Hole.setL {os : Os} {as : SA} {st : Sto} {γ : List (U × V)} {σ : L2.St} {H : Hp} {h : Hl} {v : V} {us us' : List U} (hl : Hole F os as i Sh0 σ H (.lst .leaf) h v) (Q : SDo F os as st γ H σ δ) (eu : h.1 = .lst us) :
    ∃ a vs, v = .ref a ∧ H a = some (.lst vs) ∧ imAll F.G (rts as) (ban F os as) us vs H ∧ ∀ vs', imAll F.G (rts as) (ban F os as) us' vs' H → ∃ A, SDo F os as st γ (upd H a (.lst vs')) σ (δ.set i (some (.own Sh0 (h.2 (.lst us'))))) ∧ Chg F os as H (upd H a (.lst vs')) i A A a ∧ setOs os i A = os := by
  obtain ⟨A, A1, A', A2, v0, m, e0, eA, o, pl⟩ := hl.ex
  rw [eu] at o
  obtain ⟨a, vs, e1, e2, e3, q⟩ := own_lst.mp o
  refine ⟨a, vs, e1, e3, q, fun vs' h' => ?_⟩
  have ma : a ∈ A := by rw [eA, e2]; exact List.mem_append_right _ List.mem_cons_self
  have c : Chg F os as H (upd H a (.lst vs')) i A A a := chg_same m ma Q e3 (fun _ z => nomatch z) (fun _ _ z => nomatch z)
  have so := setOs_same Q.ix m
  refine ⟨A, ?_, c, so⟩
  have nd := os_nodup os (List.nodup_append.mp Q.nd).1 m
  rw [eA, e2] at nd
  have := Q.mut c (x := some (.own Sh0 (h.2 (.lst us')))) fun s es => by
    cases es
    refine ⟨_, _, v0, rfl, e0, ?_⟩
    rw [so]
    have := pl (rts as) (ban F os as) (upd H a (.lst vs')) (.lst us') A' (fun u v z => by have := c.im z; rw [so] at this; exact this) (fun b xs z => c.rb.tup _ _ z) (fun b z => upd_ne fun e => ?_) (own_lst.mpr ⟨a, vs', e1, e2, upd_same, by have := c.imAll h'; rw [so] at this; exact this⟩)
    · rw [eA]; exact this
    · subst e
      have nd' := List.nodup_append.mp nd
      rcases z with z | z
      · exact nd'.2.2 b z b List.mem_cons_self rfl
      · exact (List.nodup_cons.mp nd'.2.1).1 z
  rw [so] at this
  exact this
theorem ex_mut {r : V → List V → Hp → VK → Prop} {f : List U → List U → Option (U × List U)} {wh : M Hl} {wa : M (List U)} (hm : MutL F r f) (h : EvH F i Sh0 (.lst .leaf) tp δ wh) (ha : EvAW F ta δ wa) :
    EvX F i Sh0 (tBM F.G.K "list" r tp ta) δ (.bind wh fun h => .bind wa fun xs => .o (mutL f h xs)) := fun os as st γ σ H c st' Q q QQ k => by
  obtain ⟨h1, st1, q1, q⟩ := M.bind_inv q
  obtain ⟨xs, st2, q2, q⟩ := M.bind_inv q
  obtain ⟨e, rfl⟩ := M.o_inv q
  refine h os as st γ σ H h1 st1 Q q1 _ fun x H1 as1 g1 S1 p1 => ⟨?_, ha os as1 st1 γ σ H1 xs _ S1 q2 _ fun ws H2 as2 g2 S2 p2 => ?_⟩
  · obtain ⟨A, A1, A', A2, v0, m, e0, eA, o, pl⟩ := p1.ex
    unfold mutL at e
    cases eu : h1.1 <;> rw [eu] at e <;> first | (cases e; done) | skip
    rw [eu] at o
    obtain ⟨a, vs, e1, e2, e3, q⟩ := own_lst.mp o
    rw [e1]
    exact .inl ⟨rfl, vs, EL.sqL_of e3⟩
  · have p1 := p1.go S1 g2
    unfold mutL at e
    cases eu : h1.1 <;> rw [eu] at e <;> first | (cases e; done) | skip
    rename_i us
    simp only at e
    obtain ⟨p, ep, ec⟩ := Option.map_eq_some_iff.mp e
    obtain ⟨a, vs, e1, e3, hv, fin⟩ := p1.setL (us' := p.2) S2 eu
    obtain ⟨v, vs', h1', h2', h3'⟩ := hm os as2 H2 a vs us xs ws p e3 hv p2 ep
    obtain ⟨A, S3, cg, so⟩ := fin vs' h1'
    rw [e1]
    refine h3' QQ (k v _ os as2 ?_ ?_)
    · rw [← ec]; exact S3
    · rw [← ec]
      have := cg.im h2'
      rw [so] at this
      exact this
theorem blk_x {w : M (U × U)} {k : U → M (Out S L)} (h : EvX F i Sh0 te δ w) (h2 : ∀ u, Blk F t2 (δ.set i (some (.own Sh0 u))) (k u) δn δl) : Blk F (tSeq (tDrop te) t2) δ (.bind w fun p => k p.2) δn δl := fun D os as st γ σ H o st' Q q P => by
  obtain ⟨p, st1, qp, q⟩ := M.bind_inv q
  exact h os as st γ σ H p _ Q qp _ fun v H1 os1 as1 S1 _ => h2 p.2 D os1 as1 st1 γ σ H1 o st' S1 q P
end
end UX

set_option Elab.async false
set_option linter.all false
set_option maxRecDepth 100000
set_option maxHeartbeats 4000000
set_option autoImplicit false
namespace UX
open PySem PySem.Spec PyProof.Rows L2
open EL (Ex RB BOk Bn TK rEqU rNeU rLtU iSeqU)
def leafU : U → Bool
  | .lst _ => false
  | .dct _ _ => false
  | .dcT _ _ => false
  | _ => true
def leafO (u : U) : Option U := if leafU u = true then some u else none
section
variable {G : Cxt} {rs : List Addr} {B : Bn} {H : Hp}
theorem leaf_ownF {u : U} {v : V} {A : List Addr} (h : leafU u = true) : ownF G rs B u v H A ↔ A = [] ∧ im G rs B u v H := by
  cases u <;> first | (cases h; done) | exact Iff.rfl
theorem flat_ownFs : ∀ {us : List U} {vs : List V} {A : List Addr}, us.all leafU = true → (ownFs G rs B us vs H A ↔ A = [] ∧ imAll G rs B us vs H)
  | [], vs, A, _ => ⟨fun h => ⟨h.2, h.1⟩, fun h => ⟨h.2, h.1⟩⟩
  | u :: us, vs, A, h => by
    have h' := Bool.and_eq_true_iff.mp (show (leafU u && us.all leafU) = true from h)
    constructor
    · rintro ⟨v, r, A1, A2, e1, e2, h1, h2⟩
      obtain ⟨z1, q1⟩ := (leaf_ownF h'.1).mp h1
      obtain ⟨z2, q2⟩ := (flat_ownFs h'.2).mp h2
      exact ⟨by rw [e2, z1, z2]; rfl, v, r, e1, q1, q2⟩
    · rintro ⟨e, v, r, e1, h1, h2⟩
      exact ⟨v, r, [], [], e1, e, (leaf_ownF h'.1).mpr ⟨rfl, h1⟩, (flat_ownFs h'.2).mpr ⟨rfl, h2⟩⟩
end
def EvNF (F : Fr) (te : TE) (δ : Dl) (w : M U) : Prop := ∀ os as st γ σ H a st', SDo F os as st γ H σ δ → w st = some (.ok a, st') → ∀ QQ : VK, (∀ v H' as' A, Go as as' H H' → (∀ k, k ∉ os.map (·.1) → SDo F ((k, A) :: os) as' st' γ H' σ δ) → ownF F.G (rts as') (ban F ((0, A) :: os) as') a v H' A → (∀ a ∈ A, H a = none) → QQ v H') → te σ H QQ
def EvANF (F : Fr) (ta : TA) (δ : Dl) (w : M (List U)) : Prop := ∀ os as st γ σ H us st', SDo F os as st γ H σ δ → w st = some (.ok us, st') → ∀ QQ : List V → Hp → Prop, (∀ vs H' as' A, Go as as' H H' → (∀ k, k ∉ os.map (·.1) → SDo F ((k, A) :: os) as' st' γ H' σ δ) → ownFs F.G (rts as') (ban F ((0, A) :: os) as') us vs H' A → (∀ a ∈ A, H a = none) → QQ vs H') → ta σ H QQ
section
variable {F : Fr} {δ : Dl} {te : TE} {ta : TA} {w : M U} {wl : M (List U)}
theorem SDo.grow0 {os : Os} {as : SA} {st : Sto} {γ : List (U × V)} {H : Hp} {σ : L2.St} {k : Nat} (S : SDo F os as st γ H σ δ) (hk : k ∉ os.map (·.1)) : SDo F ((k, []) :: os) as st γ H σ δ := by
  refine ⟨S.gh, S.rel, S.ok, S.nd, List.nodup_cons.mpr ⟨hk, S.ix⟩, S.new, S.nb, S.sto, S.len, fun i s e => ?_⟩
  obtain ⟨v, h1, h2⟩ := S.at_ i s e
  refine ⟨v, h1, ?_⟩
  match s, h2 with
  | .im u, h2 => exact h2
  | .raw _, h2 => exact h2
  | .own sh u, ⟨A, m, h2⟩ => exact ⟨A, List.mem_cons_of_mem _ m, h2⟩
theorem enf_leaf (h : EvW F te δ w) : EvNF F te δ (.bind w fun u => .o (leafO u)) := fun os as st γ σ H c st' S q QQ k => by
  obtain ⟨u, st1, qu, q⟩ := M.bind_inv q
  obtain ⟨e, rfl⟩ := M.o_inv q
  unfold leafO at e
  by_cases hl : leafU u = true
  · rw [if_pos hl] at e
    cases e
    exact h os as st γ σ H _ _ S qu _ fun v H1 as1 g1 S1 p => k v H1 as1 [] g1 (fun k hk => S1.grow0 hk) ((leaf_ownF hl).mpr ⟨rfl, p⟩) (fun a m => nomatch m)
  · rw [if_neg hl] at e; cases e
theorem eanf_nil : EvANF F tNil δ nilA := fun os as st γ σ H us st' S q QQ k => by
  cases q
  exact k [] H as [] (Go.refl _ _) (fun k hk => S.grow0 hk) ⟨rfl, rfl⟩ (fun a m => nomatch m)
theorem SDo.merge {os : Os} {as : SA} {st : Sto} {γ : List (U × V)} {H : Hp} {σ : L2.St} {k1 k2 k : Nat} {A1 A2 : List Addr} (S : SDo F ((k2, A2) :: (k1, A1) :: os) as st γ H σ δ) (h1 : δ.length ≤ k1) (h2 : δ.length ≤ k2) (hk : k ∉ os.map (·.1)) : SDo F ((k, A1 ++ A2) :: os) as st γ H σ δ := by
  have bb : ∀ a, ban F ((k, A1 ++ A2) :: os) as a ↔ ban F ((k2, A2) :: (k1, A1) :: os) as a := fun a => by
    rw [ban_cons, ban_cons, ban_cons, List.mem_append]
    constructor
    · rintro ((h | h) | h)
      · exact .inr (.inl h)
      · exact .inl h
      · exact .inr (.inr h)
    · rintro (h | h | h)
      · exact .inl (.inr h)
      · exact .inl (.inl h)
      · exact .inr h
  have up : ∀ u v, im F.G (rts as) (ban F ((k2, A2) :: (k1, A1) :: os) as) u v H → im F.G (rts as) (ban F ((k, A1 ++ A2) :: os) as) u v H := fun u v h => im_sub (fun a _ b => (bb a).mp b) _ _ h
  have fm : ∀ a, a ∈ flo ((k, A1 ++ A2) :: os) → a ∈ flo ((k2, A2) :: (k1, A1) :: os) := fun a m => by
    rw [flo_cons, List.mem_append, List.mem_append] at m
    rw [flo_cons, flo_cons, List.mem_append, List.mem_append]
    rcases m with (m | m) | m
    · exact .inr (.inl m)
    · exact .inl m
    · exact .inr (.inr m)
  refine ⟨fun p m => up _ _ (S.gh p m), S.rel, fun a b => S.ok a ((bb a).mp b), ?_, List.nodup_cons.mpr ⟨hk, (List.nodup_cons.mp (List.nodup_cons.mp S.ix).2).2⟩, fun a m => S.new a (fm a m), fun a z => S.nb a (z.imp (fm a) id), StOk.mono up (fun _ _ h => h) (fun _ _ => rfl) S.sto, S.len, fun i s e => ?_⟩
  · have nd : (A2 ++ (A1 ++ flo os) ++ fl as).Nodup := S.nd
    show (A1 ++ A2 ++ flo os ++ fl as).Nodup
    have pm : (A1 ++ A2 ++ flo os ++ fl as).Perm (A2 ++ (A1 ++ flo os) ++ fl as) := by
      rw [← List.append_assoc A2]
      exact ((List.perm_append_comm (l₁ := A1) (l₂ := A2)).append_right (flo os)).append_right (fl as)
    exact pm.nodup_iff.mpr nd
  · obtain ⟨v, q1, q2⟩ := S.at_ i s e
    refine ⟨v, q1, ?_⟩
    match s, q2 with
    | .im u, q2 => exact up _ _ q2
    | .raw _, q2 => exact q2
    | .own sh u, ⟨A, m, q2⟩ =>
      refine ⟨A, List.mem_cons_of_mem _ ?_, own_mono up (fun _ _ h => h) _ _ _ _ (fun _ _ => rfl) q2⟩
      have il := getElem?_lt e
      rcases List.mem_cons.mp m with z | m
      · have : i = k2 := (Prod.mk.inj z).1
        omega
      · rcases List.mem_cons.mp m with z | m
        · have : i = k1 := (Prod.mk.inj z).1
          omega
        · exact m
theorem eanf_cons {tr : TA} {wr : M (List U)} (h : EvNF F te δ w) (hr : EvANF F tr δ wr) : EvANF F (tCons te tr) δ (consA w wr) := fun os as st γ σ H us st' S q QQ k => by
  obtain ⟨a, st1, qa, q⟩ := M.bind_inv q
  obtain ⟨r, st2, qr, q⟩ := M.bind_inv q
  cases q
  refine h os as st γ σ H a _ S qa _ fun x H1 as1 A1 g1 S1 p1 n1 => ?_
  obtain ⟨k1, hk1, hl1⟩ := nodup_fresh (os.map (·.1)) δ.length
  refine hr _ as1 st1 γ σ H1 r _ (S1 k1 hk1) qr _ fun vs H2 as2 A2 g2 S2 p2 n2 => ?_
  obtain ⟨k2, hk2, hl2⟩ := nodup_fresh (((k1, A1) :: os).map (·.1)) δ.length
  refine k (x :: vs) H2 as2 (A1 ++ A2) (g1.trans g2) (fun k hk => (S2 k2 hk2).merge hl1 hl2 hk) ⟨x, vs, A1, A2, rfl, rfl, ?_, ?_⟩ fun a m => ?_
  · have S3 := S2 k2 hk2
    have al : ∀ a ∈ A1, H1 a ≠ none := fun a m => (S1 k1 hk1).ok a (.inr (.inl (List.mem_append_left _ m)))
    refine ownF_mono (fun u v z => ?_) _ _ _ (fun a m => ?_) p1
    · have z1 : im F.G (rts as1) (ban F ((k2, A2) :: (k1, A1) :: os) as1) u v H1 := im_sub (sub_cons n2) _ _ z
      have z2 := im_go (os := (k2, A2) :: (k1, A1) :: os) g2 z1
      refine im_sub (fun a _ b => ?_) _ _ z2
      rw [ban_cons, List.mem_append] at b
      rw [ban_cons, ban_cons]
      rcases b with (h | h) | h
      · exact .inr (.inl h)
      · exact .inl h
      · exact .inr (.inr h)
    · cases e : H1 a with
      | none => exact absurd e (al a m)
      | some o => exact g2.rb.keep a o (fun q => (List.nodup_append.mp (S1 k1 hk1).nd).2.2 a (List.mem_append_left _ m) a q rfl) e
  · refine ownFs_mono (fun u v z => im_sub (fun a _ b => ?_) _ _ z) _ _ _ (fun _ _ => rfl) p2
    rw [ban_cons, List.mem_append] at b
    rw [ban_cons, ban_cons]
    rcases b with (h | h) | h
    · exact .inr (.inl h)
    · exact .inl h
    · exact .inr (.inr h)
  · rcases List.mem_append.mp m with z | z
    · exact n1 a z
    · exact g1.fresh (n2 a z)
theorem enf_lst (h : EvANF F ta δ wl) : EvNF F (tLst ta) δ (lstW wl) := fun os as st γ σ H c st' S q QQ k => by
  obtain ⟨us, st1, qa, q⟩ := M.bind_inv q
  obtain ⟨e, rfl⟩ := M.o_inv q
  by_cases hl : us.length ≤ sizeLine
  · rw [if_pos hl] at e
    cases e
    refine h os as st γ σ H us _ S qa _ fun vs H1 as1 A g1 S1 pv n => ⟨by rw [ownFs_len pv]; exact hl, fun p hp => ?_⟩
    obtain ⟨k1, hk1, hl1⟩ := nodup_fresh (os.map (·.1)) δ.length
    obtain ⟨k2, hk2, hl2⟩ := nodup_fresh (((k1, A) :: os).map (·.1)) δ.length
    have S2 := (S1 k1 hk1).grow hk2 hp (Ex.new (o := .lst vs) hp) (by rw [upd_same]; exact fun z => nomatch z)
    have npA : ∀ a ∈ A, a ≠ p := fun a m z => by
      have := (S1 k1 hk1).ok a (.inr (.inl (List.mem_append_left _ m)))
      rw [z] at this; exact this hp
    have bb : ∀ a, ban F ((0, p :: A) :: os) as1 a → ban F ((k2, [p]) :: (k1, A) :: os) as1 a := fun a b => by
      rw [ban_cons, List.mem_cons] at b
      rw [ban_cons, ban_cons, List.mem_singleton]
      rcases b with (h | h) | h
      · exact .inl h
      · exact .inr (.inl h)
      · exact .inr (.inr h)
    refine k (.ref p) _ as1 (p :: A) (g1.trans (Go.of_ex (Ex.new hp))) (fun k hk => ?_) ⟨p, vs, A, rfl, rfl, upd_same, ?_⟩ fun a m => ?_
    · have := S2.merge (k := k) hl1 hl2 hk
      have pm : ∀ a, a ∈ A ++ [p] ↔ a ∈ p :: A := fun a => by rw [List.mem_append, List.mem_singleton, List.mem_cons]; exact Or.comm
      have cm : ∀ a, ban F ((k, p :: A) :: os) as1 a → ban F ((k, A ++ [p]) :: os) as1 a := fun a b => by
        rw [ban_cons] at b ⊢
        exact b.imp (pm a).mpr id
      have up : ∀ u v, im F.G (rts as1) (ban F ((k, A ++ [p]) :: os) as1) u v (upd H1 p (.lst vs)) → im F.G (rts as1) (ban F ((k, p :: A) :: os) as1) u v (upd H1 p (.lst vs)) := fun u v h => im_sub (fun a _ b => cm a b) _ _ h
      refine ⟨fun q m => up _ _ (this.gh q m), this.rel, fun a b => this.ok a (cm a b), ?_, this.ix, fun a m => this.new a ?_, fun a z => this.nb a (z.imp (fun m => ?_) id), StOk.mono up (fun _ _ h => h) (fun _ _ => rfl) this.sto, this.len, fun i s e => ?_⟩
      · have nd := this.nd
        have pp : ((p :: A) ++ flo os ++ fl as1).Perm ((A ++ [p]) ++ flo os ++ fl as1) := ((List.perm_append_comm (l₁ := [p]) (l₂ := A)).append_right (flo os)).append_right (fl as1)
        exact pp.nodup_iff.mpr nd
      · rw [flo_cons, List.mem_append] at m ⊢
        exact m.imp (pm a).mpr id
      · rw [flo_cons, List.mem_append] at m ⊢
        exact m.imp (pm a).mpr id
      · obtain ⟨v, q1, q2⟩ := this.at_ i s e
        refine ⟨v, q1, ?_⟩
        match s, q2 with
        | .im u, q2 => exact up _ _ q2
        | .raw _, q2 => exact q2
        | .own sh u, ⟨C, m, q2⟩ =>
          rcases List.mem_cons.mp m with z | m
          · have il := getElem?_lt e
            have m1 := S2.at_ i _ e
            obtain ⟨v', _, C', m', q'⟩ := m1
            rcases List.mem_cons.mp m' with z' | m'
            · have : i = k2 := (Prod.mk.inj z').1
              omega
            · rcases List.mem_cons.mp m' with z' | m'
              · have : i = k1 := (Prod.mk.inj z').1
                omega
              · exact absurd (List.mem_map_of_mem (f := (·.1)) m') (by rw [show (i, C').1 = k from (Prod.mk.inj z).1]; exact hk)
          · exact ⟨C, List.mem_cons_of_mem _ m, own_mono up (fun _ _ h => h) _ _ _ _ (fun _ _ => rfl) q2⟩
    · refine ownFs_mono (fun u v z => ?_) _ _ _ (fun a m => upd_ne (npA a m)) pv
      have z1 : im F.G (rts as1) (ban F ((k2, [p]) :: (k1, A) :: os) as1) u v H1 := im_sub (sub_cons fun a m => by rw [List.mem_singleton] at m; rw [m]; exact hp) _ _ z
      exact im_sub (fun a _ b => bb a b) _ _ (im_st (RB.of_ex (Ex.new hp)) _ _ z1)
    · rcases List.mem_cons.mp m with z | z
      · rw [z]; exact g1.fresh hp
      · exact n a z
  · rw [if_neg hl] at e; cases e
def allocM (u : U) : M U := fun st => some (.ok (.loc st.length), st ++ [u])
theorem StOk.snoc {G : Cxt} {B : Bn} {rs : List Addr} {H : Hp} {p : Addr × List Addr} {u : U} (h : ownC G rs B u (.ref p.1) H p.2) : ∀ {as : SA} {st : Sto}, StOk G B rs as st H → StOk G B rs (as ++ [p]) (st ++ [u]) H
  | [], [], _ => ⟨h, trivial⟩
  | _ :: _, _ :: _, ⟨h1, h2⟩ => ⟨h1, StOk.snoc h h2⟩
theorem ownC_of {G : Cxt} {rs : List Addr} {B : Bn} {H : Hp} {u : U} {v : V} {A : List Addr} (hu : ∀ c ns us, u ≠ .obj c ns us) (h : ownF G rs B u v H A) : ownC G rs B u v H A := by
  cases u <;> first | exact h | exact absurd rfl (hu _ _ _)
def lstO (u : U) : Option U := match u with
  | .lst _ => some u
  | _ => none
theorem blk_retC {S L : Type} {δn : S → Dl} {δl : L → Dl} (h : EvNF F te δ w) (hR : F.R = noR := by rfl) : Blk F (tRet te) δ (rtO (.bind w fun u => .bind (.o (lstO u)) allocM) : M (Out S L)) δn δl := fun D os as st γ σ H o st' Q q P => by
  obtain ⟨l, st1, ql, q⟩ := M.bind_inv q
  obtain ⟨u, st2, qu, ql2⟩ := M.bind_inv ql
  obtain ⟨u', st3, qx, ql3⟩ := M.bind_inv ql2
  obtain ⟨eu, rfl⟩ := M.o_inv qx
  clear ql ql2
  cases ql3; cases q
  refine h os as st γ σ H u _ Q qu _ fun v H1 as1 A g1 S1 p n => ?_
  cases u with
  | lst us => ?_
  | _ => cases eu
  cases eu
  obtain ⟨a, vs, A', e1, e2, e3, q⟩ := id p
  obtain ⟨k1, hk1, hl1⟩ := nodup_fresh (os.map (·.1)) δ.length
  have S2 := S1 k1 hk1
  have fle : fl (as1 ++ [(a, A)]) = fl as1 ++ A := by simp [fl]
  have rle : rts (as1 ++ [(a, A)]) = rts as1 ++ [a] := by simp [rts]
  have bb : ∀ b, ban F [] (as1 ++ [(a, A)]) b → ban F ((k1, A) :: os) as1 b := fun b z => by
    rw [ban_cons]
    rcases z with z | z | z
    · exact .inr (.inl z)
    · cases z
    · rw [fle, List.mem_append] at z
      exact z.elim (fun z => .inr (.inr (.inr z))) .inl
  have rsx : ∀ (i : Nat) (b : Addr), (rts as1)[i]? = some b → (rts (as1 ++ [(a, A)]))[i]? = some b := fun i b e => by
    rw [rle, List.getElem?_append_left (getElem?_lt e)]; exact e
  have up : ∀ u v, im F.G (rts as1) (ban F ((k1, A) :: os) as1) u v H1 → im F.G (rts (as1 ++ [(a, A)])) (ban F [] (as1 ++ [(a, A)])) u v H1 := fun u v h => im_sub (fun b _ z => bb b z) _ _ (im_rs rsx _ _ h)
  have nd : (A ++ (flo os ++ fl as1)).Nodup := by rw [← List.append_assoc]; exact S2.nd
  refine P (as1 ++ [(a, A)]) v H1 ⟨⟨S2.rel.rb, fun i b e => rsx i b (S2.rel.pre i b e), fun b m => ?_⟩, fun b z => S2.ok b (bb b z), ?_, fun b m => ?_, ?_, ?_, by rw [hR]; trivial⟩
  · rw [fle, List.mem_append] at m
    rcases m with m | m
    · exact S2.rel.new b m
    · exact .inr (S2.new b (List.mem_append_left _ m))
  · rw [fle]
    have nd' := List.nodup_append.mp nd
    exact List.nodup_append.mpr ⟨(List.nodup_append.mp nd'.2.1).2.1, nd'.1, fun b m c m' e => by subst e; exact nd'.2.2 b m' b (List.mem_append_right _ m) rfl⟩
  · rw [fle, List.mem_append] at m
    exact m.elim (fun m => S2.nb b (.inr m)) fun m => S2.nb b (.inl (List.mem_append_left _ m))
  · refine StOk.snoc (ownC_of (fun c ns us z => by cases z) ?_) (StOk.mono up (fun _ _ h => h) (fun _ _ => rfl) S2.sto)
    rw [← e1]
    exact ownF_mono up _ _ _ (fun _ _ => rfl) p
  · refine ⟨a, ?_, e1⟩
    rw [rle]
    have le : (rts as1).length = st3.length := (by unfold rts; rw [List.length_map]; exact S2.sto.len)
    rw [← le, List.getElem?_append_right (Nat.le_refl _), Nat.sub_self]
    rfl
end
end UX

set_option Elab.async false
set_option linter.all false
set_option maxRecDepth 100000
set_option maxHeartbeats 4000000
set_option autoImplicit false
namespace UX
open PySem PySem.Spec PyProof.Rows L2
open EL (Ex RB BOk Bn TK rEqU rNeU rLtU iSeqU)
def ownR (G : Cxt) (rs : List Addr) (B : Bn) : Bool → U → V → Hp → List Addr → Prop
  | true => ownC G rs B
  | false => ownF G rs B
structure HoleC (F : Fr) (os : Os) (as : SA) (H : Hp) (r : Bool) (i : Nat) (h : Hl) (v : V) : Prop where
  ex : ∃ a A A1 A' A2, as[i]? = some (a, A) ∧ A = A1 ++ (A' ++ A2) ∧ ownR F.G (rts as) (ban F os as) r h.1 v H A' ∧
    ∀ rs2 B2 H2 u2 A'2, (∀ u v, im F.G (rts as) (ban F os as) u v H → im F.G rs2 B2 u v H2) → (∀ a, a ∈ A1 ∨ a ∈ A2 → H2 a = H a) →
      ownR F.G rs2 B2 r u2 v H2 A'2 → ownC F.G rs2 B2 (h.2 u2) (.ref a) H2 (A1 ++ (A'2 ++ A2))
abbrev Cl := Nat × Hl
def EvC (F : Fr) (r : Bool) (te : TE) (δ : Dl) (w : M Cl) : Prop := ∀ os as st γ σ H c st', SDo F os as st γ H σ δ → w st = some (.ok c, st') → ∀ QQ : VK, (∀ v H' as', Go as as' H H' → SDo F os as' st' γ H' σ δ → HoleC F os as' H' r c.1 c.2 v → QQ v H') → te σ H QQ
def EvQ (F : Fr) (te : TE) (δ : Dl) (w : M U) : Prop := ∀ os as st γ σ H a st', SDo F os as st γ H σ δ → w st = some (.ok a, st') → st' = st ∧ ∀ QQ : VK, (∀ v, im F.G (rts as) (ban F os as) a v H → QQ v H) → te σ H QQ
def locM (u : U) : M Cl := fun st => match u with
  | .loc i => match st[i]? with
    | some x => some (.ok (i, (x, id)), st)
    | none => none
  | _ => none
section
variable {F : Fr} {os : Os} {as : SA} {st : Sto} {γ : List (U × V)} {H : Hp} {σ : L2.St} {δ : Dl}
theorem StOk.get {G : Cxt} {B : Bn} {rs : List Addr} : ∀ {as : SA} {st : Sto} {i : Nat} {p : Addr × List Addr} {u : U}, StOk G B rs as st H → as[i]? = some p → st[i]? = some u → ownC G rs B u (.ref p.1) H p.2
  | p :: as, s :: st, 0, _, _, ⟨h1, _⟩, e1, e2 => by simp at e1 e2; subst e1 e2; exact h1
  | p :: as, s :: st, i + 1, _, _, ⟨_, h2⟩, e1, e2 => StOk.get (i := i) h2 (by simpa using e1) (by simpa using e2)
  | [], [], _, _, _, _, e, _ => by simp at e
theorem ec_loc {te : TE} {w : M U} (h : EvW F te δ w) : EvC F true te δ (.bind w locM) := fun os as st γ σ H c st' S q QQ k => by
  obtain ⟨u, st1, qu, q⟩ := M.bind_inv q
  refine h os as st γ σ H u _ S qu _ fun v H1 as1 g1 S1 p => ?_
  cases u with
  | loc i => ?_
  | _ => cases q
  obtain ⟨a, ea, ev⟩ := p
  cases es : st1[i]? with
  | none => simp only [locM, es] at q; cases q
  | some x =>
    simp only [locM, es] at q
    cases q
    obtain ⟨⟨a', A⟩, e1, e2⟩ : ∃ p, as1[i]? = some p ∧ p.1 = a := by
      unfold rts at ea
      rw [List.getElem?_map] at ea
      obtain ⟨p, h1, h2⟩ := Option.map_eq_some_iff.mp ea
      exact ⟨p, h1, h2⟩
    simp only at e2
    subst e2
    have := S1.sto.get e1 es
    rw [← ev] at this
    exact k v H1 as1 g1 S1 ⟨a', A, [], A, [], e1, by simp, this, fun rs2 B2 H2 u2 A'2 _ _ o2 => by rw [← ev]; have o2 : ownC F.G rs2 B2 u2 v H2 A'2 := o2; simpa using o2⟩
theorem eq_int {i : Int} : EvQ F (tC (.int i)) δ (.ret (.int i)) := fun os as st γ σ H a st' S q => by
  cases q; exact ⟨rfl, fun QQ k => k _ rfl⟩
theorem eq_var {i : Nat} {u : U} (h : δ[i]? = some (some (.im u))) : EvQ F (tVar i) δ (.ret u) := fun os as st γ σ H a st' S q => by
  cases q
  obtain ⟨v, e, p⟩ := S.get h
  exact ⟨rfl, fun QQ k => ⟨v, e, k v p⟩⟩
def ixC (c : Cl) (n : U) : Option Cl := match c.2.1 with
  | .lst _ => (ixH c.2 n).map fun h => (c.1, h)
  | _ => none
theorem ec_ix {r : Bool} {te ti : TE} {w : M Cl} {wi : M U} (h : EvC F r te δ w) (hi : EvQ F ti δ wi) : EvC F false (tOp (rIx F.G.K) te ti) δ (.bind w fun c => .bind wi fun n => .o (ixC c n)) := fun os as st γ σ H c st' S q QQ k => by
  obtain ⟨c1, st1, q1, q⟩ := M.bind_inv q
  obtain ⟨n, st2, q2, q⟩ := M.bind_inv q
  obtain ⟨e, rfl⟩ := M.o_inv q
  refine h os as st γ σ H c1 st1 S q1 _ fun x H1 as1 g1 S1 p1 => ?_
  obtain ⟨rfl, hq⟩ := hi os as1 st1 γ σ H1 n _ S1 q2
  refine hq _ fun y py => ?_
  obtain ⟨a, A, A1, A', A2, e0, eA, o, pl⟩ := p1.ex
  obtain ⟨i, u1, f1⟩ := c1
  cases u1 with
  | lst us =>
    cases n with
    | int n => ?_
    | _ => cases e
    have o : ownF F.G (rts as1) (ban F os as1) (.lst us) x H1 A' := by cases r <;> exact o
    obtain ⟨b, vs, B, e1, e2, e3, z⟩ := o
    simp only [ixC, ixH] at e
    cases ej : ixN us.length n with
    | none => rw [ej] at e; cases e
    | some j =>
      rw [ej] at e
      simp only at e
      cases eu : us[j]? with
      | none => rw [eu] at e; cases e
      | some u =>
        rw [eu] at e
        simp only [Option.map_some] at e
        cases e
        obtain ⟨v, B1, B', B2, f1', f2, f3, f4⟩ := ownFs_split z eu
        refine .inl ⟨b, vs, n, v, e1, py, .inl (.inl e3), ixN_eq (by rw [ownFs_len z]; exact ej) f1', ?_⟩
        refine k v H1 as1 g1 S1 ⟨a, A, A1 ++ b :: B1, B', B2 ++ A2, e0, by rw [eA, e2, f2]; simp, f3, fun rs2 B2' H3 u2 A'2 t1 t3 o2 => ?_⟩
        have := pl rs2 B2' H3 (.lst (us.set j u2)) (b :: (B1 ++ (A'2 ++ B2))) t1 (fun b z => t3 b (z.imp (fun z => List.mem_append_left _ z) fun z => List.mem_append_right _ z)) (by
          have : ownF F.G rs2 B2' (.lst (us.set j u2)) x H3 (b :: (B1 ++ (A'2 ++ B2))) := ⟨b, vs, B1 ++ (A'2 ++ B2), e1, rfl, by rw [t3 b (.inl (List.mem_append_right _ List.mem_cons_self))]; exact e3, f4 rs2 B2' H3 u2 A'2 t1 (fun b z => t3 b (z.imp (fun z => List.mem_append_right _ (List.mem_cons_of_mem _ z)) fun z => List.mem_append_left _ z)) o2⟩
          cases r <;> exact this)
        simpa using this
  | _ => cases e
def valC (c : Cl) : Option U := leafO c.2.1
theorem ev_cell {r : Bool} {te : TE} {w : M Cl} (h : EvC F false te δ w) : EvW F te δ (.bind w fun c => .o (valC c)) := fun os as st γ σ H c st' S q QQ k => by
  obtain ⟨c1, st1, q1, q⟩ := M.bind_inv q
  obtain ⟨e, rfl⟩ := M.o_inv q
  refine h os as st γ σ H c1 _ S q1 _ fun x H1 as1 g1 S1 p1 => ?_
  obtain ⟨a, A, A1, A', A2, e0, eA, o, pl⟩ := p1.ex
  unfold valC leafO at e
  by_cases hl : leafU c1.2.1 = true
  · rw [if_pos hl] at e
    cases e
    exact k x H1 as1 g1 S1 ((leaf_ownF hl).mp o).2
  · rw [if_neg hl] at e; cases e
def putC (i : Nat) (u : U) : M Unit := fun st => if i < st.length then some (.ok (), st.set i u) else none
theorem StOk.upd {G : Cxt} {B : Bn} {rs : List Addr} {H H' : Hp} {a : Addr} (hk : ∀ u v, im G rs B u v H → im G rs B u v H') (ht : ∀ a xs, H a = some (.tup xs) → H' a = some (.tup xs)) : ∀ {as : SA} {st : Sto} {i : Nat} {p : Addr × List Addr} {u : U}, (fl as).Nodup → StOk G B rs as st H → as[i]? = some p → a ∈ p.2 → (∀ b, b ≠ a → H' b = H b) → ownC G rs B u (.ref p.1) H' p.2 → StOk G B rs as (st.set i u) H'
  | q :: as, s :: st, 0, p, u, nd, ⟨h1, h2⟩, e, ma, kp, o => by
    simp at e; subst e
    have nd' := List.nodup_append.mp (show (q.2 ++ fl as).Nodup from nd)
    exact ⟨o, StOk.mono hk ht (fun b m => kp b fun z => nd'.2.2 a ma b m z.symm) h2⟩
  | q :: as, s :: st, i + 1, p, u, nd, ⟨h1, h2⟩, e, ma, kp, o => by
    have nd' := List.nodup_append.mp (show (q.2 ++ fl as).Nodup from nd)
    have e' : as[i]? = some p := by simpa using e
    exact ⟨ownC_mono hk _ _ _ (fun b m => kp b fun z => nd'.2.2 b m a (mem_fl (List.mem_of_getElem? e') ma) z) h1, StOk.upd hk ht nd'.2.1 h2 e' ma kp o⟩
  | [], [], _, _, _, _, _, e, _, _, _ => by simp at e
theorem SDo.cell (S : SDo F os as st γ H σ δ) {i : Nat} {a b : Addr} {A : List Addr} {vs vs' : List V} {u : U} (e0 : as[i]? = some (a, A)) (mb : b ∈ A) (e : H b = some (.lst vs)) (o : ownC F.G (rts as) (ban F os as) u (.ref a) (upd H b (.lst vs')) A) :
    SDo F os as (st.set i u) γ (upd H b (.lst vs')) σ δ ∧ Go as as H (upd H b (.lst vs')) ∧ ∀ u v, im F.G (rts as) (ban F os as) u v H → im F.G (rts as) (ban F os as) u v (upd H b (.lst vs')) := by
  have mf : b ∈ fl as := mem_fl (List.mem_of_getElem? e0) mb
  have rb : RB (· ∈ fl as) H (upd H b (.lst vs')) := by
    refine ⟨fun c o n h => by rw [upd_ne (fun (z : c = b) => n (by rw [z]; exact mf))]; exact h, fun c xs h => by rw [upd_ne (ne_of h e (by intro z; cases z))]; exact h, fun c o x h => by rw [upd_ne (ne_of h e (by intro z; cases z))]; exact h, fun c _ n => ?_⟩
    by_cases z : c = b
    · rw [z, upd_same]; exact fun q => nomatch q
    · rw [upd_ne z]; exact n
  have g : Go as as H (upd H b (.lst vs')) := ⟨rb, fun _ _ h => h, fun _ h => .inl h⟩
  have hk : ∀ u v, im F.G (rts as) (ban F os as) u v H → im F.G (rts as) (ban F os as) u v (upd H b (.lst vs')) := fun u v h => im_go g h
  have nd := (List.nodup_append.mp S.nd).2.1
  refine ⟨S.go g nd (StOk.upd hk (fun c xs h => rb.tup c xs h) nd S.sto e0 mb (fun c n => upd_ne n) o) fun c m => g.alive (S.ok c (.inr (.inr m))), g, hk⟩
def setItC (c : Cl) (n x : U) : Option Cl := match c.2.1, n with
  | .lst us, .int n => if leafU x = true then match ixN us.length n with
    | some j => match us[j]? with
      | some o => if leafU o = true then some (c.1, (c.2.2 (.lst (us.set j x)), id)) else none
      | none => none
    | none => none else none
  | _, _ => none
theorem StOk.lt {G : Cxt} {B : Bn} {rs : List Addr} {i : Nat} {p : Addr × List Addr} (h : StOk G B rs as st H) (e : as[i]? = some p) : i < st.length := by
  have := getElem?_lt e
  rw [h.len] at this
  exact this
theorem ownFs_set {G : Cxt} {rs rs2 : List Addr} {B B2 : Bn} {H H2 : Hp} {x w : U} {xv : V} (hx : leafU x = true) (hw : leafU w = true) (px : im G rs2 B2 x xv H2) (t : ∀ u v, im G rs B u v H → im G rs2 B2 u v H2) : ∀ {us : List U} {vs : List V} {A : List Addr} {j : Nat}, us[j]? = some w → (∀ c ∈ A, H2 c = H c) → ownFs G rs B us vs H A → ownFs G rs2 B2 (us.set j x) (vs.set j xv) H2 A
  | [], _, _, _, e, _, _ => by simp at e
  | u :: us, _, A, 0, e, k, ⟨v, r, A1, A2, e1, e2, h1, h2⟩ => by
    simp at e; subst e e1
    obtain ⟨z, _⟩ := (leaf_ownF hw).mp h1
    subst z
    exact ⟨xv, r, [], A2, rfl, e2, (leaf_ownF hx).mpr ⟨rfl, px⟩, ownFs_mono t us r A2 (fun c m => k c (by rw [e2]; exact m)) h2⟩
  | u :: us, _, A, j + 1, e, k, ⟨v, r, A1, A2, e1, e2, h1, h2⟩ => by
    subst e1
    exact ⟨v, r.set j xv, A1, A2, rfl, e2, ownF_mono t u v A1 (fun c m => k c (by rw [e2]; exact List.mem_append_left _ m)) h1, ownFs_set hx hw px t (j := j) (by simpa using e) (fun c m => k c (by rw [e2]; exact List.mem_append_right _ m)) h2⟩
theorem imAll_map {G : Cxt} {rs rs2 : List Addr} {B B2 : Bn} {H H2 : Hp} (t : ∀ u v, im G rs B u v H → im G rs2 B2 u v H2) : ∀ {us : List U} {vs : List V}, imAll G rs B us vs H → imAll G rs2 B2 us vs H2
  | [], _, h => h
  | u :: us, _, ⟨v, w, e, h1, h2⟩ => ⟨v, w, e, t _ _ h1, imAll_map t h2⟩
theorem sa_nodup {a : Addr} {A : List Addr} : ∀ (l : SA) (i : Nat), (fl l).Nodup → l[i]? = some (a, A) → A.Nodup := by
  intro l
  induction l with
  | nil => intro i _ e; simp at e
  | cons p l ih =>
    intro i nd e
    have nd' := List.nodup_append.mp (show (p.2 ++ fl l).Nodup from nd)
    cases i with
    | zero => simp at e; rw [show A = p.2 by rw [e]]; exact nd'.1
    | succ i => exact ih i nd'.2.1 (by simpa using e)
theorem HoleC.setL {r : Bool} {i : Nat} {us us' : List U} {f : U → U} {cv : V} (p : HoleC F os as H r i (.lst us, f) cv) (S : SDo F os as st γ H σ δ) :
    ∃ b vs B, cv = .ref b ∧ H b = some (.lst vs) ∧ ownFs F.G (rts as) (ban F os as) us vs H B ∧ b ∉ B ∧ i < st.length ∧ ∀ vs', (∀ H2, (∀ u v, im F.G (rts as) (ban F os as) u v H → im F.G (rts as) (ban F os as) u v H2) → (∀ c ∈ B, H2 c = H c) → ownFs F.G (rts as) (ban F os as) us' vs' H2 B) → SDo F os as (st.set i (f (.lst us'))) γ (upd H b (.lst vs')) σ δ := by
  obtain ⟨a, A, A1, A', A2, e0, eA, ow, pl⟩ := p.ex
  have ow : ownF F.G (rts as) (ban F os as) (.lst us) cv H A' := by cases r <;> exact ow
  obtain ⟨b, vs, B, e1, e2, e3, z⟩ := ow
  have mb : b ∈ A := by rw [eA, e2]; exact List.mem_append_right _ List.mem_cons_self
  have nd := sa_nodup as i (List.nodup_append.mp S.nd).2.1 e0
  rw [eA, e2] at nd
  have nd1 := List.nodup_append.mp nd
  have nd2 := List.nodup_cons.mp nd1.2.1
  have nB : b ∉ B := fun m => nd2.1 (List.mem_append_left _ m)
  refine ⟨b, vs, B, e1, e3, z, nB, S.sto.lt e0, fun vs' hv => ?_⟩
  have mf : b ∈ fl as := mem_fl (List.mem_of_getElem? e0) mb
  have rb : RB (· ∈ fl as) H (L2.upd H b (.lst vs')) := by
    refine ⟨fun c o n h => by rw [upd_ne (fun (z : c = b) => n (by rw [z]; exact mf))]; exact h, fun c xs h => by rw [upd_ne (ne_of h e3 (by intro z; cases z))]; exact h, fun c o x h => by rw [upd_ne (ne_of h e3 (by intro z; cases z))]; exact h, fun c _ n => ?_⟩
    by_cases z : c = b
    · rw [z, upd_same]; exact fun q => nomatch q
    · rw [upd_ne z]; exact n
  have g : Go as as H (L2.upd H b (.lst vs')) := ⟨rb, fun _ _ h => h, fun _ h => .inl h⟩
  refine (S.cell e0 mb e3 (vs' := vs') ?_).1
  have := pl (rts as) (ban F os as) (L2.upd H b (.lst vs')) (.lst us') A' (fun u v h => im_go g h) (fun c z => upd_ne fun e => ?_) (by
    have : ownF F.G (rts as) (ban F os as) (.lst us') cv (L2.upd H b (.lst vs')) A' := ⟨b, vs', B, e1, e2, upd_same, hv _ (fun u v h => im_go g h) fun c m => upd_ne fun e => nB (by rw [← e]; exact m)⟩
    cases r <;> exact this)
  · rw [eA]; exact this
  · subst e
    rcases z with z | z
    · exact nd1.2.2 c z c List.mem_cons_self rfl
    · exact nd2.1 (List.mem_append_right _ z)
theorem blk_setC {S L : Type} {δn : S → Dl} {δl : L → Dl} {r : Bool} {te to ti : TE} {t2 : TS} {we wi : M U} {wc : M Cl} {k : M (Out S L)} (he : EvW F te δ we) (hc : EvC F r to δ wc) (hi : EvQ F ti δ wi) (h2 : Blk F t2 δ k δn δl) :
    Blk F (tSeq (tAsg te (gSub to ti rSetL)) t2) δ (.bind we fun x => .bind wc fun c => .bind wi fun n => .bind (.o (setItC c n x)) fun d => .bind (putC d.1 d.2.1) fun _ => k) δn δl := fun D os as st γ σ H o st' Q q P => by
  obtain ⟨x, st1, q1, q⟩ := M.bind_inv q
  obtain ⟨c, st2, q2, q⟩ := M.bind_inv q
  obtain ⟨n, st3, q3, q⟩ := M.bind_inv q
  obtain ⟨d, st4, q4, q⟩ := M.bind_inv q
  obtain ⟨_, st5, q5, q⟩ := M.bind_inv q
  obtain ⟨ed, rfl⟩ := M.o_inv q4
  refine he os as st γ σ H x st1 Q q1 _ fun xv H1 as1 g1 S1 px => hc os as1 st1 γ σ H1 c st2 S1 q2 _ fun cv H2 as2 g2 S2 p2 => ?_
  obtain ⟨rfl, hq⟩ := hi os as2 st2 γ σ H2 n _ S2 q3
  refine hq _ fun y py => ?_
  have px := im_go g2 px
  obtain ⟨i, u1, f1⟩ := c
  cases u1 with
  | lst us =>
    cases n with
    | int n => ?_
    | _ => cases ed
    simp only [setItC] at ed
    by_cases hl : leafU x = true
    · rw [if_pos hl] at ed
      cases ej : ixN us.length n with
      | none => rw [ej] at ed; cases ed
      | some j =>
        rw [ej] at ed
        simp only at ed
        cases eo : us[j]? with
        | none => rw [eo] at ed; cases ed
        | some w =>
          rw [eo] at ed
          simp only at ed
          by_cases hw : leafU w = true
          · rw [if_pos hw] at ed
            cases ed
            obtain ⟨b, vs, B, e1, e3, z, nB, lt, fin⟩ := p2.setL (us' := us.set j x) S2
            unfold putC at q5
            simp only [lt, if_true] at q5
            cases q5
            refine ⟨b, vs, n, j, e1, py, e3, by rw [ownFs_len z]; exact ej, h2 D os as2 _ γ σ _ o st' (fin _ fun H3 t kp => ownFs_set hl hw (t _ _ px) t eo kp z) q P⟩
          · rw [if_neg hw] at ed; cases ed
    · rw [if_neg hl] at ed; cases ed
  | _ => cases ed
end
end UX

set_option Elab.async false
set_option linter.all false
set_option maxRecDepth 100000
set_option maxHeartbeats 4000000
set_option autoImplicit false
namespace UX
open PySem PySem.Spec PyProof.Rows L2
open EL (Ex RB BOk Bn TK FnG okG)
section
variable {P : Program} {w : World} {K : PySem.W.Frag} {mg : Str → Option Value} {bs : Heap} {CX : CXT} {x qu : Str} {pa : Arguments} {bo : List Stmt} {sc : Scope} {dv : List V} {kw : List (Str × V)} {f : Addr} {fd : FuncData}
theorem fn_okF {at_ : Str → Addr} {N ps : List Str} {k : Nat} {fM : List U → M U} (Fd : FunD K x qu pa bo sc dv kw f fd) (Sc : FnScope N ps sc)
    (hlen : ∀ us st r, fM us st = some r → us.length = ps.length)
    (hb : ∀ (cv : Value) (A : Around) (o : List Env) (s : Shared) (H : Hp) (E : XK), Room k (A.deeper (envOfC qu sc s.heap.objs.size f cv)) →
      ∃ t, PSs (cxOf CX P w K mg bs N qu sc f cv A o s H E) bo t ∧ ∀ B H0 as0 us st r, fM us st = some r → ∃ wo : M (Out Unit Unit), fM us = fnM wo ∧ Blk ⟨⟨K, at_⟩, B, H0, as0, noR⟩ t (stD N us) wo (fun _ => dnil N) (fun _ => dnil N)) :
    FnOk P w K mg bs CX (k + 1) f fd ps (spM ⟨K, at_⟩ fM) := by
  refine Fd.ok Sc (fun vs H Q E h => ?_) fun cv A o s H vs Q E rm hsp => ?_
  · obtain ⟨B, as, st, us, u, st', _, _, _, _, hi, hf, _⟩ := h
    rw [imAll_len hi]
    exact hlen us st _ hf
  · obtain ⟨B, as, st, us, u, st', ok, nd, nb, sto, hi, hf, kk⟩ := hsp
    obtain ⟨t, ht, hB⟩ := hb cv A o s H E rm
    refine ⟨t, ht, ?_⟩
    obtain ⟨wo, e, bl⟩ := hB B H as us st _ hf
    rw [e] at hf
    obtain ⟨o', st1, q1, q⟩ := M.bind_inv hf
    refine bl _ [] as st [] _ H o' st1 (SDo.start (F := ⟨⟨K, at_⟩, B, H, as, noR⟩) ok nd nb sto hi) q1 ?_
    cases o' with
    | rt u' => cases q; exact fun as' v H' r => kk as' v H' r
    | nx _ => cases q; exact fun os as' σ H' S => kk as' _ H' (S.rt rfl trivial)
    | bk _ => cases q
    | ct _ => cases q
end
def lookF (f : Str) : List Str → List U → Option U
  | n :: ns, u :: us => if n = f then some u else lookF f ns us
  | _, _ => none
def fldU (cs : List Str) (f : Str) : U → Option U
  | .obj c ns us => if c ∈ cs then lookF f ns us else none
  | _ => none
theorem look_zip {G : Cxt} {rs : List Addr} {B : Bn} {H : Hp} {f : Str} : ∀ {ns : List Str} {us : List U} {vs : List V} {u : U}, imAll G rs B us vs H → lookF f ns us = some u → ∃ v, (ns.zip vs).lookup f = some v ∧ im G rs B u v H
  | n :: ns, u :: us, _, u', ⟨v, r, e, h1, h2⟩, el => by
    subst e
    unfold lookF at el
    by_cases z : n = f
    · rw [if_pos z] at el
      cases el
      refine ⟨v, ?_, h1⟩
      rw [List.zip_cons_cons, List.lookup_cons, z]
      simp
    · rw [if_neg z] at el
      obtain ⟨v', e1, e2⟩ := look_zip h2 el
      refine ⟨v', ?_, e2⟩
      rw [List.zip_cons_cons, List.lookup_cons]
      have : (f == n) = false := by simpa using fun q => z q.symm
      rw [this]
      exact e1
  | [], _, _, _, _, el => by cases el
  | _ :: _, [], _, _, _, el => by cases el
section
variable {F : Fr} {δ : Dl} {te ta : TE} {w : M U}
theorem ev_fld {cs : List Str} {f : Str} (hc : ∀ c ∈ cs, Cls F.G.K (F.G.at_ c) ∧ NoAttr F.G.K (F.G.at_ c) f) (h : EvR F ta δ w) : EvW F (tFld F.G.K ta f) δ (op1 (fldU cs f) w) := fun os as st γ σ H c st' S q QQ k => by
  obtain ⟨u, st1, qu, q⟩ := M.bind_inv q
  obtain ⟨e, rfl⟩ := M.o_inv q
  refine h os as st γ σ H u _ S qu _ fun v H1 as1 g1 S1 p => ?_
  cases u with
  | obj c0 ns us => ?_
  | _ => cases e
  simp only [fldU] at e
  by_cases hm : c0 ∈ cs
  · rw [if_pos hm] at e
    obtain ⟨a, dx, vs, e1, _, e3, l, hv⟩ := p
    obtain ⟨x, e4, e5⟩ := look_zip hv e
    exact ⟨a, F.G.at_ c0, dx, _, x, e1, e3, (hc c0 hm).1, (hc c0 hm).2, e4, k x H1 as1 g1 S1 e5⟩
  · rw [if_neg hm] at e; cases e
def isObj (c m : Str) : U → Option U
  | .obj c' ns us => if c' = c ∧ lookF m ns us = none ∧ ns.length = us.length then some (.obj c' ns us) else none
  | _ => none
theorem look_none {m : Str} : ∀ {ns : List Str} {us : List U} {vs : List V}, ns.length = us.length → vs.length = us.length → lookF m ns us = none → (ns.zip vs).lookup m = none
  | [], _, _, _, _, _ => rfl
  | n :: ns, [], _, l, _, _ => by cases l
  | n :: ns, u :: us, [], _, l, _ => by cases l
  | n :: ns, u :: us, v :: vs, l1, l2, e => by
    unfold lookF at e
    by_cases z : n = m
    · rw [if_pos z] at e; cases e
    · rw [if_neg z] at e
      rw [List.zip_cons_cons, List.lookup_cons]
      have : (m == n) = false := by simpa using fun q => z q.symm
      rw [this]
      exact look_none (by simpa using l1) (by simpa using l2) e
def methM (c m : Str) (f : List U → M U) (wo : M U) (wa : M (List U)) : M U := .bind wo fun o => .bind (.o (isObj c m o)) fun _ => .bind wa fun us => f (o :: us)
theorem ev_meth {c m : Str} {E : XK} {f : List U → M U} {t : TA} {wa : M (List U)} (ho : EvW F ta δ w) (ha : EvAW F t δ wa) : EvW F (tMeth (F.G.at_ c) m (spM F.G f) [] E ta t) δ (methM c m f w wa) := fun os as st γ σ H r st' S q QQ k => by
  obtain ⟨o, st1, qo, q1⟩ := M.bind_inv q
  obtain ⟨o2, st2, qi, q2⟩ := M.bind_inv q1
  obtain ⟨us, st3, qa, q3⟩ := M.bind_inv q2
  obtain ⟨ei, rfl⟩ := M.o_inv qi
  clear q q1 q2
  have q := q3
  clear q3
  refine ho os as st γ σ H o _ S qo _ fun x H1 as1 g1 S1 px => ?_
  cases o with
  | obj c' ns vs0 => ?_
  | _ => cases ei
  simp only [isObj] at ei
  split at ei
  case isFalse => cases ei
  rename_i hc
  obtain ⟨a, dx, vs, e1, nb, e3, l, hv⟩ := id px
  refine ⟨a, dx, _, e1, by rw [← hc.1]; exact e3, look_none l (imAll_len hv) hc.2.1, ?_⟩
  refine ha os as1 st2 γ σ H1 us st3 S1 qa _ fun vs2 H2 as2 g2 S2 pv => ?_
  rw [List.append_nil]
  obtain ⟨ok, nb2, e⟩ := S2.enter
  refine ⟨fun a => F.B a ∨ a ∈ flo os, as2, st3, _ :: us, r, st', ok, (List.nodup_append.mp S2.nd).2.1, nb2, StOk.mono (fun _ _ h => im_sub (fun a _ b => (e a).mp b) _ _ h) (fun _ _ h => h) (fun _ _ => rfl) S2.sto, ⟨x, vs2, rfl, im_sub (fun a _ b => (e a).mp b) _ _ (im_go g2 px), imAll_sub (fun a _ b => (e a).mp b) _ _ pv⟩, q, fun as' v H' rr => ?_⟩
  obtain ⟨S3, p⟩ := S2.leave rr
  exact k v H' as' ((g1.trans g2).trans rr.rel) S3 p
end
end UX

set_option Elab.async false
set_option linter.all false
set_option maxRecDepth 100000
set_option maxHeartbeats 4000000
set_option autoImplicit false
namespace UX
open PySem PySem.Spec PyProof.Rows L2
open EL (Ex RB BOk Bn TK FnG okG)
mutual
def nlU : U → Bool
  | .tup us => nlA us
  | .lst us => nlA us
  | .dct _ us => nlA us
  | .dcT _ us => nlA us
  | .dcN ks us => nlA ks && nlA us
  | .obj _ _ us => nlA us
  | .frl us => nlA us
  | .loc _ => false
  | .exc _ => false
  | _ => true
def nlA : List U → Bool
  | [] => true
  | u :: us => nlU u && nlA us
end
section
variable {G : Cxt} {rs rs' : List Addr} {B : Bn} {H : Hp}
mutual
theorem im_nl : ∀ (u : U) (v : V), nlU u = true → im G rs B u v H → im G rs' B u v H
  | .non, _, _, h => h
  | .bl _, _, _, h => h
  | .int _, _, _, h => h
  | .str _, _, _, h => h
  | .tup us, _, p, ⟨a, vs, e, t, q⟩ => ⟨a, vs, e, t, imAll_nl us vs p q⟩
  | .lst us, _, p, ⟨a, vs, e, n, t, q⟩ => ⟨a, vs, e, n, t, imAll_nl us vs p q⟩
  | .dct ks us, _, p, ⟨a, vs, e, n, t, l, q⟩ => ⟨a, vs, e, n, t, l, imAll_nl us vs p q⟩
  | .dcT ks us, _, p, ⟨a, vs, e, n, t, l, q⟩ => ⟨a, vs, e, n, t, l, imAll_nl us vs p q⟩
  | .dcN ks us, _, p, ⟨a, vs, e, n, t, l, q1, q⟩ => ⟨a, vs, e, n, t, l, imAll_nl ks _ (Bool.and_eq_true_iff.mp p).1 q1, imAll_nl us _ (Bool.and_eq_true_iff.mp p).2 q⟩
  | .obj c ns us, _, p, ⟨a, dx, vs, e, n, t, l, q⟩ => ⟨a, dx, vs, e, n, t, l, imAll_nl us vs p q⟩
  | .top _, _, _, h => h
  | .frl us, _, p, ⟨a, vs, e, t, q⟩ => ⟨a, vs, e, t, imAll_nl us vs p q⟩
  | .loc _, _, p, _ => nomatch p
  | .exc _, _, p, _ => nomatch p
theorem imAll_nl : ∀ (us : List U) (vs : List V), nlA us = true → imAll G rs B us vs H → imAll G rs' B us vs H
  | [], _, _, h => h
  | u :: us, _, p, ⟨v, w, e, h1, h2⟩ => ⟨v, w, e, im_nl u v (Bool.and_eq_true_iff.mp p).1 h1, imAll_nl us w (Bool.and_eq_true_iff.mp p).2 h2⟩
end
mutual
/-- what is wholly owned, given away -/
theorem ownF_im : ∀ (u : U) (v : V) (A : List Addr), (∀ a ∈ A, ¬ B a) → ownF G rs B u v H A → im G rs B u v H
  | .lst us, v, A, n, ⟨a, vs, A', e1, e2, h, q⟩ => ⟨a, vs, e1, n a (by rw [e2]; exact List.mem_cons_self), h, ownFs_im us vs A' (fun b m => n b (by rw [e2]; exact List.mem_cons_of_mem _ m)) q⟩
  | .dct ks us, v, A, n, ⟨a, vs, A', e1, e2, h, l, q⟩ => ⟨a, vs, e1, n a (by rw [e2]; exact List.mem_cons_self), .inl h, l, ownFs_im us vs A' (fun b m => n b (by rw [e2]; exact List.mem_cons_of_mem _ m)) q⟩
  | .dcT ks us, v, A, n, ⟨a, vs, A', e1, e2, h, l, q⟩ => ⟨a, vs, e1, n a (by rw [e2]; exact List.mem_cons_self), .inl h, l, ownFs_im us vs A' (fun b m => n b (by rw [e2]; exact List.mem_cons_of_mem _ m)) q⟩
  | .non, v, A, _, h => h.2
  | .bl _, v, A, _, h => h.2
  | .int _, v, A, _, h => h.2
  | .str _, v, A, _, h => h.2
  | .tup _, v, A, _, h => h.2
  | .obj _ _ _, v, A, _, h => h.2
  | .dcN _ _, v, A, _, h => h.2
  | .top _, v, A, _, h => h.2
  | .frl _, v, A, _, h => h.2
  | .loc _, v, A, _, h => h.2
  | .exc _, v, A, _, h => h.2
theorem ownFs_im : ∀ (us : List U) (vs : List V) (A : List Addr), (∀ a ∈ A, ¬ B a) → ownFs G rs B us vs H A → imAll G rs B us vs H
  | [], _, _, _, h => h.1
  | u :: us, _, A, n, ⟨v, r, A1, A2, e1, e2, h1, h2⟩ => ⟨v, r, e1, ownF_im u v A1 (fun b m => n b (by rw [e2]; exact List.mem_append_left _ m)) h1, ownFs_im us r A2 (fun b m => n b (by rw [e2]; exact List.mem_append_right _ m)) h2⟩
end
theorem ownC_im {u : U} {v : V} {A : List Addr} (n : ∀ a ∈ A, ¬ B a) (h : ownC G rs B u v H A) : im G rs B u v H := by
  cases u with
  | obj c ns us => obtain ⟨a, dx, vs, A', e1, e2, h, l, q⟩ := h; exact ⟨a, dx, vs, e1, n a (by rw [e2]; exact List.mem_cons_self), h, l, ownFs_im us vs A' (fun b m => n b (by rw [e2]; exact List.mem_cons_of_mem _ m)) q⟩
  | _ => exact ownF_im _ v A n h
end
def mkM (c : Str) (f : List U → M U) (wa : M (List U)) : M U := .bind wa fun us st => match f (.loc st.length :: us) (opq st ++ [.obj c [] []]) with
  | some (.ok .non, st') => match st'[st.length]? with
    | some u => if nlU u = true then some (.ok u, st) else none
    | none => none
  | _ => none
section
variable {F : Fr} {δ : Dl} {ta : TA} {wa : M (List U)} {E : XK} {f : List U → M U} {c : Str}
theorem ev_make (h : EvAW F ta δ wa) : EvW F (tMake (F.G.at_ c) (spM F.G f) [] E ta) δ (mkM c f wa) := fun os as st γ σ H r st' S q QQ k => by
  obtain ⟨us, st1, qa, q1⟩ := M.bind_inv q
  clear q
  refine h os as st γ σ H us st1 S qa _ fun vs H1 as1 g1 S1 pv x dx hx hdx ne => ?_
  rw [List.append_nil]
  cases e : f (.loc st1.length :: us) (opq st1 ++ [.obj c [] []]) with
  | none => rw [e] at q1; cases q1
  | some p =>
    rw [e] at q1
    match p, e, q1 with
    | (.ok .non, st2), e, q1 =>
      simp only at q1
      cases eu : st2[st1.length]? with
      | none => rw [eu] at q1; cases q1
      | some u =>
        rw [eu] at q1
        simp only at q1
        by_cases hn : nlU u = true
        · rw [if_pos hn] at q1
          obtain ⟨rfl, rfl⟩ : u = r ∧ st1 = st' := by cases q1; exact ⟨rfl, rfl⟩
          have hH : Ex H1 (upd (upd H1 dx (.own x)) x (.ins (F.G.at_ c) dx [])) := (Ex.new hdx).trans (Ex.new (by rw [upd_ne ne.symm]; exact hx))
          have fle : fl ((as1.map fun p => (p.1, [])) ++ [(x, [x])]) = [x] := by
            have := fl_opq as1
            unfold fl at this ⊢
            rw [List.map_append, List.flatten_append, this]
            rfl
          have rle : rts ((as1.map fun p => (p.1, [])) ++ [(x, [x])]) = rts as1 ++ [x] := by
            have := rts_opq as1
            unfold rts at this ⊢
            rw [List.map_append, this]
            rfl
          have rlen : (rts as1).length = st1.length := by unfold rts; rw [List.length_map]; exact S1.sto.len
          have rsx : ∀ (i : Nat) (b : Addr), (rts as1)[i]? = some b → (rts as1 ++ [x])[i]? = some b := fun i b e => by
            rw [List.getElem?_append_left (getElem?_lt e)]; exact e
          have ab : ∀ (H0 : Hp) (as0 : SA) a, ban ⟨F.G, ban F os as1, H0, as0, noR⟩ [] ((as1.map fun p => (p.1, [])) ++ [(x, [x])]) a → ban F os as1 a ∨ a = x := by
            rintro H0 as0 a (h | h | h)
            · exact .inl h
            · cases h
            · rw [fle, List.mem_singleton] at h; exact .inr h
          have nbx : ¬ ban F os as1 x := S1.notban hx
          have up : ∀ (H0 : Hp) (as0 : SA) u v, im F.G (rts as1) (ban F os as1) u v H1 → im F.G (rts ((as1.map fun p => (p.1, [])) ++ [(x, [x])])) (ban ⟨F.G, ban F os as1, H0, as0, noR⟩ [] ((as1.map fun p => (p.1, [])) ++ [(x, [x])])) u v (upd (upd H1 dx (.own x)) x (.ins (F.G.at_ c) dx [])) := fun H0 as0 u v h => by
            rw [rle]
            have h1 : im F.G (rts as1) (fun a => ban F os as1 a ∨ a = x) u v H1 := im_sub (fun a n b => b.elim id fun z => absurd (z ▸ hx) n) _ _ h
            exact im_sub (fun a _ b => ab H0 as0 a b) _ _ (im_st (RB.of_ex hH) _ _ (im_rs rsx _ _ h1))
          refine ⟨ban F os as1, (as1.map fun p => (p.1, [])) ++ [(x, [x])], opq st1 ++ [.obj c [] []], .loc st1.length :: us, .non, st2, fun a b => ?_, by rw [fle]; simp, fun a m => ?_, ?_, ⟨.ref x, vs, rfl, ⟨x, ?_, rfl⟩, imAll_map (up _ _) pv⟩, e, fun as' v H' rr => ?_⟩
          · rcases ab _ _ a b with z | z
            · exact (Go.of_ex (as := as1) hH).alive (S1.ok a z)
            · rw [z, upd_same]; exact fun q => nomatch q
          · rw [fle, List.mem_singleton] at m; rw [m]; exact nbx
          · refine StOk.snoc ?_ ?_
            · exact ⟨x, dx, [], [], rfl, rfl, upd_same, rfl, rfl, rfl⟩
            · have := StOk.opq (G := F.G) (B := ban ⟨F.G, ban F os as1, upd (upd H1 dx (.own x)) x (.ins (F.G.at_ c) dx []), (as1.map fun p => (p.1, [])) ++ [(x, [x])], noR⟩ [] ((as1.map fun p => (p.1, [])) ++ [(x, [x])])) (H := upd (upd H1 dx (.own x)) x (.ins (F.G.at_ c) dx [])) as1 st1 S1.sto.len
              rw [rle]
              exact StOk.mono (fun u v h => im_rs rsx _ _ h) (fun _ _ h => h) (fun _ _ => rfl) this
          · rw [rle, ← rlen, List.getElem?_append_right (Nat.le_refl _), Nat.sub_self]; rfl
          · refine ⟨rr.im, ?_⟩
            have exH : ∀ a o, H1 a = some o → H' a = some o := fun a o h => rr.rel.rb.keep a o (by
              show a ∉ fl _
              rw [fle, List.mem_singleton]
              exact fun z => by rw [z, hx] at h; cases h) (hH a o h)
            have ex : Ex H1 H' := exH
            obtain ⟨pp, ep⟩ : ∃ pp, as'[st1.length]? = some pp := by
              have : st1.length < as'.length := by rw [rr.sto.len]; exact getElem?_lt eu
              exact ⟨_, List.getElem?_eq_getElem this⟩
            have hroot : pp.1 = x := by
              have h1 := rr.rel.pre st1.length x (by rw [show rts _ = rts as1 ++ [x] from rle, ← rlen, List.getElem?_append_right (Nat.le_refl _), Nat.sub_self]; rfl)
              unfold rts at h1
              rw [List.getElem?_map, ep] at h1
              exact Option.some.inj h1
            have oc := rr.sto.get ep eu
            rw [hroot] at oc
            have nA : ∀ a ∈ pp.2, ¬ ban F os as1 a := fun a m => rr.nb a (mem_fl (List.mem_of_getElem? ep) m)
            have oc2 : ownC F.G (rts as') (ban F os as1) u (.ref x) H' pp.2 := ownC_mono (fun u v h => im_sub (fun a _ b => .inl b) _ _ h) _ _ _ (fun _ _ => rfl) oc
            exact k (.ref x) H' as1 (g1.trans (Go.of_ex ex)) (S1.ex ex) (im_nl _ _ hn (ownC_im nA oc2))
        · rw [if_neg hn] at q1; cases q1
    | (.er _, _), e, q1 => cases q1
end
end UX

set_option Elab.async false
set_option linter.all false
set_option maxRecDepth 100000
set_option maxHeartbeats 4000000
set_option autoImplicit false
namespace UX
open PySem PySem.Spec PyProof.Rows L2
open EL (Ex RB BOk Bn TK FnG okG)
def idxF (f : Str) : List Str → Option Nat
  | [] => none
  | n :: ns => if n = f then some 0 else (idxF f ns).map (· + 1)
theorem idx_zip {f : Str} : ∀ {ns : List Str} {vs : List V} {j : Nat} {v : V}, idxF f ns = some j → vs[j]? = some v → (ns.zip vs).lookup f = some v
  | [], _, _, _, e, _ => by cases e
  | n :: ns, [], _, _, _, e => by simp at e
  | n :: ns, w :: vs, j, v, e, e2 => by
    unfold idxF at e
    rw [List.zip_cons_cons, List.lookup_cons]
    by_cases z : n = f
    · rw [if_pos z] at e
      cases e
      simp at e2
      rw [z, e2]; simp
    · rw [if_neg z] at e
      obtain ⟨j', e', rfl⟩ := Option.map_eq_some_iff.mp e
      have : (f == n) = false := by simpa using fun q => z q.symm
      rw [this]
      exact idx_zip e' (by simpa using e2)
theorem idx_none {f : Str} : ∀ {ns : List Str} {vs : List V}, idxF f ns = none → ns.length = vs.length → ∀ y, putF f y (ns.zip vs) = (ns ++ [f]).zip (vs ++ [y])
  | [], vs, _, l, y => by
    have : vs = [] := List.eq_nil_of_length_eq_zero l.symm
    subst this; rfl
  | n :: ns, [], _, l, _ => by cases l
  | n :: ns, v :: vs, e, l, y => by
    unfold idxF at e
    by_cases z : n = f
    · rw [if_pos z] at e; cases e
    · rw [if_neg z] at e
      have e' : idxF f ns = none := by
        cases q : idxF f ns with
        | none => rfl
        | some j => rw [q] at e; cases e
      show putF f y ((n, v) :: ns.zip vs) = _
      rw [putF, if_neg z, idx_none e' (by simpa using l) y]
      rfl
def fldC (cs : List Str) (f : Str) (c : Cl) : Option Cl := match c.2.1 with
  | .obj c0 ns us => if c0 ∈ cs then match idxF f ns with
    | some j => match us[j]? with
      | some u => some (c.1, (u, fun x => c.2.2 (.obj c0 ns (us.set j x))))
      | none => none
    | none => none else none
  | _ => none
section
variable {F : Fr} {os : Os} {as : SA} {st : Sto} {γ : List (U × V)} {H : Hp} {σ : L2.St} {δ : Dl}
theorem ec_fld {cs : List Str} {f : Str} {te : TE} {w : M Cl} (hc : ∀ c ∈ cs, Cls F.G.K (F.G.at_ c) ∧ NoAttr F.G.K (F.G.at_ c) f) (h : EvC F true te δ w) : EvC F false (tFld F.G.K te f) δ (.bind w fun c => .o (fldC cs f c)) := fun os as st γ σ H c st' S q QQ k => by
  obtain ⟨c1, st1, q1, q2⟩ := M.bind_inv q
  obtain ⟨e, rfl⟩ := M.o_inv q2
  refine h os as st γ σ H c1 _ S q1 _ fun x H1 as1 g1 S1 p1 => ?_
  obtain ⟨a, A, A1, A', A2, e0, eA, o, pl⟩ := p1.ex
  obtain ⟨i, u1, f1⟩ := c1
  cases u1 with
  | obj c0 ns us =>
    obtain ⟨b, dx, vs, B, e1, e2, e3, l, z⟩ := (show ownC F.G (rts as1) (ban F os as1) (.obj c0 ns us) x H1 A' from o)
    simp only [fldC] at e
    by_cases hm : c0 ∈ cs
    · rw [if_pos hm] at e
      cases ej : idxF f ns with
      | none => rw [ej] at e; cases e
      | some j =>
        rw [ej] at e
        simp only at e
        cases eu : us[j]? with
        | none => rw [eu] at e; cases e
        | some u =>
          rw [eu] at e
          simp only at e
          cases e
          obtain ⟨v, B1, B', B2, f1', f2, f3, f4⟩ := ownFs_split z eu
          refine ⟨b, F.G.at_ c0, dx, _, v, e1, e3, (hc c0 hm).1, (hc c0 hm).2, idx_zip ej f1', ?_⟩
          refine k v H1 as1 g1 S1 ⟨a, A, A1 ++ b :: B1, B', B2 ++ A2, e0, by rw [eA, e2, f2]; simp, f3, fun rs2 B2' H3 u2 A'2 t1 t3 o2 => ?_⟩
          have := pl rs2 B2' H3 (.obj c0 ns (us.set j u2)) (b :: (B1 ++ (A'2 ++ B2))) t1 (fun b z => t3 b (z.imp (fun z => List.mem_append_left _ z) fun z => List.mem_append_right _ z)) ⟨b, dx, vs, B1 ++ (A'2 ++ B2), e1, rfl, by rw [t3 b (.inl (List.mem_append_right _ List.mem_cons_self))]; exact e3, by rw [List.length_set]; exact l, f4 rs2 B2' H3 u2 A'2 t1 (fun b z => t3 b (z.imp (fun z => List.mem_append_right _ (List.mem_cons_of_mem _ z)) fun z => List.mem_append_left _ z)) o2⟩
          simpa using this
    · rw [if_neg hm] at e; cases e
  | _ => cases e
theorem fl_set {i : Nat} {x : Addr} {A0 A A1 : List Addr} (hp : A1.Perm (A0 ++ A)) : ∀ {as : SA}, as[i]? = some (x, A0) → (fl (as.set i (x, A1))).Perm (A ++ fl as) := by
  induction i with
  | zero =>
    intro as e
    cases as with
    | nil => simp at e
    | cons p as =>
      simp at e; subst e
      show (A1 ++ fl as).Perm (A ++ (A0 ++ fl as))
      rw [← List.append_assoc]
      exact (hp.trans List.perm_append_comm).append_right _
  | succ i ih =>
    intro as e
    cases as with
    | nil => simp at e
    | cons p as =>
      have := ih (as := as) (by simpa using e)
      show (p.2 ++ fl (as.set i (x, A1))).Perm (A ++ (p.2 ++ fl as))
      refine (List.Perm.append_left p.2 this).trans ?_
      rw [← List.append_assoc, ← List.append_assoc]
      exact (List.perm_append_comm).append_right _
theorem rts_set {i : Nat} {x : Addr} {A0 A : List Addr} {as : SA} (e : as[i]? = some (x, A0)) : rts (as.set i (x, A)) = rts as := by
  unfold rts
  rw [List.map_set]
  apply List.ext_getElem?
  intro j
  by_cases z : i = j
  · subst z
    have hl := getElem?_lt e
    rw [List.getElem?_set_self (by rw [List.length_map]; exact hl), List.getElem?_map, e]; rfl
  · rw [List.getElem?_set_ne z]
theorem StOk.put {G : Cxt} {B : Bn} {rs : List Addr} {H H' : Hp} (hk : ∀ u v, im G rs B u v H → im G rs B u v H') : ∀ {as : SA} {st : Sto} {i : Nat} {p p' : Addr × List Addr} {u : U}, StOk G B rs as st H → as[i]? = some p → (∀ (j : Nat) (q : Addr × List Addr), as[j]? = some q → j ≠ i → ∀ b ∈ q.2, H' b = H b) → ownC G rs B u (.ref p'.1) H' p'.2 → StOk G B rs (as.set i p') (st.set i u) H'
  | q :: as, s :: st, 0, p, p', u, ⟨h1, h2⟩, e, kp, o => ⟨o, by
      have : ∀ {as : SA} {st : Sto} (n : Nat), (∀ (j : Nat) (q : Addr × List Addr), as[j]? = some q → ∀ b ∈ q.2, H' b = H b) → StOk G B rs as st H → StOk G B rs as st H' := by
        intro as
        induction as with
        | nil => intro st n _ h; cases st <;> exact h
        | cons q as ih =>
          intro st n kp h
          cases st with
          | nil => exact h
          | cons s st => exact ⟨ownC_mono hk _ _ _ (fun b m => kp 0 q rfl b m) h.1, ih n (fun j q e b m => kp (j + 1) q (by simpa using e) b m) h.2⟩
      exact this 0 (fun j q e b m => kp (j + 1) q (by simpa using e) (by omega) b m) h2⟩
  | q :: as, s :: st, i + 1, p, p', u, ⟨h1, h2⟩, e, kp, o => ⟨ownC_mono hk _ _ _ (fun b m => kp 0 q rfl (by omega) b m) h1, StOk.put hk (i := i) h2 (by simpa using e) (fun j q e' ne b m => kp (j + 1) q (by simpa using e') (by omega) b m) o⟩
  | [], [], _, _, _, _, _, e, _, _ => by simp at e
theorem sa_disj {b : Addr} : ∀ {as : SA} {i j : Nat} {p q : Addr × List Addr}, (fl as).Nodup → as[i]? = some p → as[j]? = some q → b ∈ p.2 → b ∈ q.2 → i = j
  | [], _, _, _, _, _, e, _, _, _ => by simp at e
  | r :: as, 0, 0, _, _, _, _, _, _, _ => rfl
  | r :: as, 0, j + 1, p, q, nd, e1, e2, m1, m2 => by
    have nd' := List.nodup_append.mp (show (r.2 ++ fl as).Nodup from nd)
    simp at e1; subst e1
    exact absurd rfl (nd'.2.2 b m1 b (mem_fl (List.mem_of_getElem? (show as[j]? = some q by simpa using e2)) m2))
  | r :: as, i + 1, 0, p, q, nd, e1, e2, m1, m2 => by
    have nd' := List.nodup_append.mp (show (r.2 ++ fl as).Nodup from nd)
    simp at e2; subst e2
    exact absurd rfl (nd'.2.2 b m2 b (mem_fl (List.mem_of_getElem? (show as[i]? = some p by simpa using e1)) m1))
  | r :: as, i + 1, j + 1, p, q, nd, e1, e2, m1, m2 => by
    have nd' := List.nodup_append.mp (show (r.2 ++ fl as).Nodup from nd)
    rw [sa_disj nd'.2.1 (show as[i]? = some p by simpa using e1) (show as[j]? = some q by simpa using e2) m1 m2]
theorem SDo.give {k i : Nat} {A A0 A1 : List Addr} {x b : Addr} {o : HO} {u : U} {H' : Hp} (S : SDo F ((k, A) :: os) as st γ H σ δ) (hp : A1.Perm (A0 ++ A)) (hk : δ.length ≤ k) (e0 : as[i]? = some (x, A0)) (mb : b ∈ A0) (eb : H b = some o) (nt : ∀ xs, o ≠ .tup xs) (nf : ∀ y z, o ≠ .frz y z)
    (kp : ∀ c y, H c = some y → c ≠ b → c ∉ A → H' c = some y) (al : ∀ c, H c ≠ none → H' c ≠ none) (ntA : ∀ c ∈ A, ∀ xs, H c ≠ some (.tup xs)) (nfA : ∀ c ∈ A, ∀ y z, H c ≠ some (.frz y z)) (ow : (∀ v w, im F.G (rts as) (ban F ((k, A) :: os) as) v w H → im F.G (rts as) (ban F os (as.set i (x, A1))) v w H') → ownC F.G (rts as) (ban F os (as.set i (x, A1))) u (.ref x) H' A1) :
    SDo F os (as.set i (x, A1)) (st.set i u) γ H' σ δ := by
  have pm := fl_set hp e0
  have mfl : ∀ c, c ∈ fl (as.set i (x, A1)) ↔ c ∈ A ∨ c ∈ fl as := fun c => by rw [pm.mem_iff, List.mem_append]
  have bb : ∀ c, ban F os (as.set i (x, A1)) c ↔ ban F ((k, A) :: os) as c := fun c => by
    rw [ban_cons]
    unfold ban
    rw [mfl]
    constructor
    · rintro (h | h | h | h)
      · exact .inr (.inl h)
      · exact .inr (.inr (.inl h))
      · exact .inl h
      · exact .inr (.inr (.inr h))
    · rintro (h | h | h | h)
      · exact .inr (.inr (.inl h))
      · exact .inl h
      · exact .inr (.inl h)
      · exact .inr (.inr (.inr h))
  have hbb : ban F ((k, A) :: os) as b := .inr (.inr (mem_fl (List.mem_of_getElem? e0) mb))
  have hA : ∀ c ∈ A, ban F ((k, A) :: os) as c := fun c m => .inr (.inl (List.mem_append_left _ m))
  have rb : RB (ban F ((k, A) :: os) as) H H' :=
    ⟨fun c y n e => kp c y e (fun z => n (by rw [z]; exact hbb)) fun m => n (hA c m), fun c xs e => kp c _ e (fun z => by rw [z, eb] at e; exact nt xs (Option.some.inj e)) fun m => ntA c m xs e, fun c y z e => kp c _ e (fun q => by rw [q, eb] at e; exact nf y z (Option.some.inj e)) fun m => nfA c m y z e, fun c _ n => al c n⟩
  have up : ∀ v w, im F.G (rts as) (ban F ((k, A) :: os) as) v w H → im F.G (rts as) (ban F os (as.set i (x, A1))) v w H' := fun v w h => im_sub (fun c _ z => (bb c).mp z) _ _ (im_st rb _ _ h)
  have tp : ∀ c xs, H c = some (.tup xs) → H' c = some (.tup xs) := fun c xs e => rb.tup c xs e
  have nd : (A ++ (flo os ++ fl as)).Nodup := by rw [← List.append_assoc]; exact S.nd
  have nd1 := List.nodup_append.mp nd
  have ndf := (List.nodup_append.mp nd1.2.1).2.1
  have rse := rts_set (A := A1) e0
  refine ⟨fun p m => by rw [rse]; exact up _ _ (S.gh p m), ⟨⟨fun c y n e => ?_, fun c xs e => tp c xs (S.rel.rb.tup c xs e), fun c y z e => rb.frz c y z (S.rel.rb.frz c y z e), fun c _ n => al c (S.rel.alive n)⟩, fun j c e => by rw [rse]; exact S.rel.pre j c e, fun c m => ?_⟩, fun c z => al c (S.ok c ((bb c).mp z)), ?_, (List.nodup_cons.mp S.ix).2, fun c m => S.new c (List.mem_append_right A m), fun c z => ?_, ?_, S.len, fun j s e => ?_⟩
  · refine kp c y (S.rel.rb.keep c y n e) (fun z => ?_) fun m => ?_
    · rcases S.rel.new c (by rw [z]; exact mem_fl (List.mem_of_getElem? e0) mb) with w | w
      · exact n w
      · rw [e] at w; cases w
    · have := S.new c (List.mem_append_left _ m)
      rw [e] at this; cases this
  · rcases (mfl c).mp m with m | m
    · exact .inr (S.new c (List.mem_append_left _ m))
    · exact S.rel.new c m
  · have : (flo os ++ fl (as.set i (x, A1))).Perm (A ++ (flo os ++ fl as)) := by
      refine (List.Perm.append_left (flo os) pm).trans ?_
      rw [← List.append_assoc, ← List.append_assoc]
      exact (List.perm_append_comm).append_right _
    exact this.nodup_iff.mpr nd
  · rcases z with z | z
    · exact S.nb c (.inl (List.mem_append_right A z))
    · rcases (mfl c).mp z with m | m
      · exact S.nb c (.inl (List.mem_append_left _ m))
      · exact S.nb c (.inr m)
  · rw [rse]
    have s0 : StOk F.G (ban F os (as.set i (x, A1))) (rts as) as st H := StOk.mono (fun v w h => im_sub (fun c _ z => (bb c).mp z) _ _ h) (fun _ _ h => h) (fun _ _ => rfl) S.sto
    have hk2 : ∀ v w, im F.G (rts as) (ban F os (as.set i (x, A1))) v w H → im F.G (rts as) (ban F os (as.set i (x, A1))) v w H' := fun v w h => up v w (im_sub (fun c _ z => (bb c).mpr z) _ _ h)
    refine StOk.put hk2 s0 e0 (fun j q eq ne c m => ?_) (ow up)
    have mf : c ∈ fl as := mem_fl (List.mem_of_getElem? eq) m
    cases e : H c with
    | none => exact absurd e (S.ok c (.inr (.inr mf)))
    | some y =>
      refine kp c y e (fun z => ne ?_) fun mA => nd1.2.2 c mA c (List.mem_append_right _ mf) rfl
      subst z
      exact sa_disj ndf eq e0 m mb
  · obtain ⟨v, h1, h2⟩ := S.at_ j s e
    refine ⟨v, h1, ?_⟩
    match s, h2 with
    | .im u, h2 => show im F.G _ _ _ _ _; rw [rse]; exact up _ _ h2
    | .raw _, h2 => exact h2
    | .own sh u, ⟨C, m, h2⟩ =>
      have m' : (j, C) ∈ os := by
        rcases List.mem_cons.mp m with z | m
        · have := getElem?_lt e
          have : j = k := (Prod.mk.inj z).1
          omega
        · exact m
      refine ⟨C, m', ?_⟩
      rw [rse]
      refine own_mono up tp _ _ _ _ (fun c mc => ?_) h2
      have mo : c ∈ flo os := mem_flo m' mc
      cases ec : H c with
      | none => exact absurd ec (S.ok c (.inr (.inl (List.mem_append_right A mo))))
      | some y =>
        refine kp c y ec (fun z => ?_) fun mA => nd1.2.2 c mA c (List.mem_append_left _ mo) rfl
        exact (List.nodup_append.mp nd1.2.1).2.2 c mo b (mem_fl (List.mem_of_getElem? e0) mb) z
end
end UX

set_option Elab.async false
set_option linter.all false
set_option maxRecDepth 100000
set_option maxHeartbeats 4000000
set_option autoImplicit false
namespace UX
open PySem PySem.Spec PyProof.Rows L2
open EL (Ex RB BOk Bn TK FnG okG)
def newF (cs : List Str) (f : Str) (c : Cl) (x : U) : Option U := match c.2.1 with
  | .obj c0 ns us => if c0 ∈ cs ∧ idxF f ns = none ∧ ns.length = us.length ∧ us.length < 1000 then some (c.2.2 (.obj c0 (ns ++ [f]) (us ++ [x]))) else none
  | _ => none
section
variable {F : Fr} {os : Os} {as : SA} {st : Sto} {γ : List (U × V)} {H : Hp} {σ : L2.St} {δ : Dl}
theorem ownFs_snoc {G : Cxt} {rs rs2 : List Addr} {B B2 : Bn} {H H2 : Hp} {u : U} {v : V} {A' : List Addr} (t : ∀ u v, im G rs B u v H → im G rs2 B2 u v H2) (h' : ownF G rs2 B2 u v H2 A') : ∀ {us : List U} {vs : List V} {A : List Addr}, (∀ a ∈ A, H2 a = H a) → ownFs G rs B us vs H A → ownFs G rs2 B2 (us ++ [u]) (vs ++ [v]) H2 (A ++ A')
  | [], _, _, _, ⟨e1, e2⟩ => by subst e1 e2; exact ⟨v, [], A', [], rfl, by simp, h', rfl, rfl⟩
  | x :: us, _, A, k, ⟨y, r, A1, A2, e1, e2, h1, h2⟩ => by
    subst e1 e2
    exact ⟨y, r ++ [v], A1, A2 ++ A', rfl, by simp, ownF_mono t x y A1 (fun a m => k a (List.mem_append_left _ m)) h1, ownFs_snoc t h' (fun a m => k a (List.mem_append_right _ m)) h2⟩
theorem ownF_notup {G : Cxt} {rs : List Addr} {B : Bn} {H : Hp} : (∀ (u : U) (v : V) (A : List Addr), ownF G rs B u v H A → ∀ c ∈ A, (∀ xs, H c ≠ some (.tup xs)) ∧ ∀ y z, H c ≠ some (.frz y z)) := by
  have key : ∀ (n : Nat), (∀ (u : U) (v : V) (A : List Addr), sizeOf u ≤ n → ownF G rs B u v H A → ∀ c ∈ A, (∀ xs, H c ≠ some (.tup xs)) ∧ ∀ y z, H c ≠ some (.frz y z)) ∧ (∀ (us : List U) (vs : List V) (A : List Addr), sizeOf us ≤ n → ownFs G rs B us vs H A → ∀ c ∈ A, (∀ xs, H c ≠ some (.tup xs)) ∧ ∀ y z, H c ≠ some (.frz y z)) := by
    intro n
    induction n with
    | zero =>
      constructor
      · intro u v A hs
        cases u <;> simp at hs
      · intro us vs A hs
        cases us <;> simp at hs
    | succ n ih =>
      constructor
      · intro u v A hs h c m
        cases u with
        | lst us =>
          obtain ⟨a, vs, A', e1, e2, e3, q⟩ := h
          rw [e2] at m
          rcases List.mem_cons.mp m with z | m
          · subst z; exact ⟨(fun xs z => by rw [e3] at z; cases z), fun y z w => by rw [e3] at w; cases w⟩
          · exact ih.2 us vs A' (by simp at hs; omega) q c m
        | dct ks us =>
          obtain ⟨a, vs, A', e1, e2, e3, l, q⟩ := h
          rw [e2] at m
          rcases List.mem_cons.mp m with z | m
          · subst z; exact ⟨(fun xs z => by rw [e3] at z; cases z), fun y z w => by rw [e3] at w; cases w⟩
          · exact ih.2 us vs A' (by simp at hs; omega) q c m
        | dcT ks us =>
          obtain ⟨a, vs, A', e1, e2, e3, l, q⟩ := h
          rw [e2] at m
          rcases List.mem_cons.mp m with z | m
          · subst z; exact ⟨(fun xs z => by rw [e3] at z; cases z), fun y z w => by rw [e3] at w; cases w⟩
          · exact ih.2 us vs A' (by simp at hs; omega) q c m
        | _ => rw [h.1] at m; cases m
      · intro us vs A hs h c m
        cases us with
        | nil => rw [h.2] at m; cases m
        | cons u us =>
          obtain ⟨v, r, A1, A2, e1, e2, h1, h2⟩ := h
          rw [e2] at m
          rcases List.mem_append.mp m with m | m
          · exact ih.1 u v A1 (by simp at hs; omega) h1 c m
          · exact ih.2 us r A2 (by simp at hs; omega) h2 c m
  intro u v A h
  exact (key (sizeOf u)).1 u v A (Nat.le_refl _) h
theorem blk_fldC {S L : Type} {δn : S → Dl} {δl : L → Dl} {cs : List Str} {f : Str} {j : Nat} {u0 : U} {te : TE} {t2 : TS} {we : M U} {k : M (Out S L)} (hc : ∀ c ∈ cs, Cls F.G.K (F.G.at_ c) ∧ NoAttr F.G.K (F.G.at_ c) f) (he : EvNF F te δ we) (hj : δ[j]? = some (some (.im u0))) (h2 : Blk F t2 δ k δn δl) :
    Blk F (tSeq (sFld F.G.K (tVar j) te f) t2) δ (.bind we fun x => .bind (locM u0) fun c => .bind (.o (newF cs f c x)) fun u => .bind (putC c.1 u) fun _ => k) δn δl := fun D os as st γ σ H o st' Q q P => by
  obtain ⟨x, st1, q1, q2⟩ := M.bind_inv q
  obtain ⟨c, st2, q3, q4⟩ := M.bind_inv q2
  obtain ⟨u, st3, q5, q6⟩ := M.bind_inv q4
  obtain ⟨_, st4, q7, q8⟩ := M.bind_inv q6
  obtain ⟨ed, rfl⟩ := M.o_inv q5
  clear q q2 q4 q6
  refine he os as st γ σ H x st1 Q q1 _ fun xv H1 as1 A g1 S1 px n => ?_
  obtain ⟨k1, hk1, hl1⟩ := nodup_fresh (os.map (·.1)) δ.length
  have S2 := S1 k1 hk1
  obtain ⟨v, ev, pv⟩ := S2.get hj
  refine ⟨v, ev, ?_⟩
  cases u0 with
  | loc i => ?_
  | _ => cases q3
  obtain ⟨a, ea, evv⟩ := pv
  simp only [locM] at q3
  cases es : st1[i]? with
  | none => rw [es] at q3; cases q3
  | some x0 =>
    rw [es] at q3
    simp only at q3
    cases q3
    obtain ⟨⟨a', A0⟩, e1, e2⟩ : ∃ p, as1[i]? = some p ∧ p.1 = a := by
      unfold rts at ea
      rw [List.getElem?_map] at ea
      exact Option.map_eq_some_iff.mp ea
    simp only at e2
    subst e2
    have oc := S2.sto.get e1 es
    cases x0 with
    | obj c0 ns us =>
      simp only [newF, id] at ed
      split at ed
      case isFalse => cases ed
      rename_i hcond
      cases ed
      obtain ⟨b, dx, vs, B, f1, f2, f3, l, z⟩ := oc
      cases f1
      have f2 : A0 = a' :: B := f2
      have lv : ns.length = vs.length := by rw [ownFs_len z]; exact l
      refine ⟨a', F.G.at_ c0, dx, _, evv, f3, (hc c0 hcond.1).1, (hc c0 hcond.1).2, by rw [List.length_zip, lv, Nat.min_self, ownFs_len z]; exact hcond.2.2.2, ?_⟩
      rw [idx_none hcond.2.1 lv]
      unfold putC at q7
      simp only [getElem?_lt es, if_true] at q7
      cases q7
      have nd : (A ++ (flo os ++ fl as1)).Nodup := by rw [← List.append_assoc]; exact S2.nd
      have nA : ∀ c ∈ A, c ≠ a' := fun c m e => (List.nodup_append.mp nd).2.2 c m a' (List.mem_append_right _ (mem_fl (List.mem_of_getElem? e1) (by rw [f2]; exact List.mem_cons_self))) e
      have nB : ∀ c ∈ B, c ≠ a' := fun c m e => by
        have := sa_nodup as1 i (List.nodup_append.mp (List.nodup_append.mp nd).2.1).2.1 e1
        rw [f2] at this
        exact (List.nodup_cons.mp this).1 (e ▸ m)
      refine h2 D os _ _ γ σ _ o st' (S2.give (i := i) (x := a') (b := a') (A0 := A0) (A1 := A0 ++ A) (H' := upd H1 a' (.ins (F.G.at_ c0) dx ((ns ++ [f]).zip (vs ++ [xv])))) (List.Perm.refl _) hl1 e1 (by rw [f2]; exact List.mem_cons_self) f3 (fun _ z => nomatch z) (fun _ _ z => nomatch z) (fun c y e ne _ => by rw [upd_ne ne]; exact e) (fun c ne => ?_) (fun c m xs => (ownF_notup _ _ _ px c m).1 xs) (fun c m y z => (ownF_notup _ _ _ px c m).2 y z) fun up => ?_) q8 P
      · by_cases z : c = a'
        · rw [z, upd_same]; exact fun q => nomatch q
        · rw [upd_ne z]; exact ne
      · refine ⟨a', dx, vs ++ [xv], B ++ A, rfl, by rw [f2]; rfl, upd_same, by rw [List.length_append, List.length_append, l]; rfl, ?_⟩
        exact ownFs_snoc up (ownF_mono up _ _ _ (fun c m => upd_ne (nA c m)) px) (fun c m => upd_ne (nB c m)) z
    | _ => cases ed
end
end UX

set_option Elab.async false
set_option linter.all false
set_option maxRecDepth 100000
set_option maxHeartbeats 4000000
set_option autoImplicit false
namespace UX
open PySem PySem.Spec PyProof.Rows L2
open EL (Ex RB BOk Bn TK FnG okG)
structure LSF (F : Fr) (os : Os) (k0 : Nat) (D : Addr) (as : SA) (st : Sto) (γ : List (U × V)) (H : Hp) (σ : L2.St) (δ : Dl) (accU : List U) (A : List Addr) : Prop where
  S : SDo F ((k0, D :: A) :: os) as st γ H σ δ
  a : ∃ acc, H D = some (.lst acc) ∧ ownFs F.G (rts as) (ban F ((k0, D :: A) :: os) as) accU acc H A
section
variable {F : Fr} {os : Os} {as as' : SA} {st st' : Sto} {γ : List (U × V)} {H H' : Hp} {σ : L2.St} {δ : Dl} {k0 : Nat} {D : Addr} {accU : List U} {A : List Addr}
theorem ownFs_go {os : Os} {us : List U} {vs : List V} {A : List Addr} (g : Go as as' H H') (h : ownFs F.G (rts as) (ban F os as) us vs H A) (k : ∀ a ∈ A, a ∉ fl as) (al : ∀ a ∈ A, H a ≠ none) : ownFs F.G (rts as') (ban F os as') us vs H' A :=
  ownFs_mono (fun _ _ h => im_go g h) _ _ _ (fun a m => by
    cases e : H a with
    | none => exact absurd e (al a m)
    | some o => exact g.rb.keep a o (k a m) e) h
theorem LSF.go (l : LSF F os k0 D as st γ H σ δ accU A) {σ' : L2.St} {δ' : Dl} (g : Go as as' H H') (S : SDo F ((k0, D :: A) :: os) as' st' γ H' σ' δ') : LSF F os k0 D as' st' γ H' σ' δ' accU A := by
  obtain ⟨acc, e, h⟩ := l.a
  have nf : ∀ a ∈ D :: A, a ∉ fl as := fun a m q => (List.nodup_append.mp l.S.nd).2.2 a (List.mem_append_left _ m) a q rfl
  exact ⟨S, acc, g.rb.keep _ _ (nf D List.mem_cons_self) e, ownFs_go g h (fun a m => nf a (List.mem_cons_of_mem _ m)) fun a m => l.S.ok a (.inr (.inl (List.mem_append_left _ (List.mem_cons_of_mem _ m))))⟩
theorem LSF.push {k : Nat} {B : List Addr} (l : LSF F os k0 D as st γ H σ δ accU A) (hk : δ.length ≤ k0) (hk1 : δ.length ≤ k) (hko : k0 ∉ os.map (·.1)) {u : U} {y : V} {as2 : SA} {st2 : Sto} {H2 : Hp} (g : Go as as2 H H2) (S2 : SDo F ((k, B) :: (k0, D :: A) :: os) as2 st2 γ H2 σ δ) (hB : ∀ a ∈ B, H a = none) (p : ownF F.G (rts as2) (ban F ((0, B) :: (k0, D :: A) :: os) as2) u y H2 B) :
    ∃ acc, H2 D = some (.lst acc) ∧ acc.length = accU.length ∧ LSF F os k0 D as2 st2 γ (upd H2 D (.lst (acc ++ [y]))) σ δ (accU ++ [u]) (A ++ B) := by
  obtain ⟨acc, e, h⟩ := l.a
  have nf : ∀ a ∈ D :: A, a ∉ fl as := fun a m q => (List.nodup_append.mp l.S.nd).2.2 a (List.mem_append_left _ m) a q rfl
  have al : ∀ a ∈ D :: A, H a ≠ none := fun a m => l.S.ok a (.inr (.inl (List.mem_append_left _ m)))
  have e2 : H2 D = some (.lst acc) := g.rb.keep _ _ (nf D List.mem_cons_self) e
  have h2 : ownFs F.G (rts as2) (ban F ((k, B) :: (k0, D :: A) :: os) as2) accU acc H2 A := by
    have h1 : ownFs F.G (rts as) (ban F ((k, B) :: (k0, D :: A) :: os) as) accU acc H A := ownFs_mono (fun _ _ z => im_sub (sub_cons hB) _ _ z) _ _ _ (fun _ _ => rfl) h
    exact ownFs_go (os := (k, B) :: (k0, D :: A) :: os) g h1 (fun a m => nf a (List.mem_cons_of_mem _ m)) fun a m => al a (List.mem_cons_of_mem _ m)
  have S3 := S2.merge (k := k0) hk hk1 hko
  have c : Chg F ((k0, (D :: A) ++ B) :: os) as2 H2 (upd H2 D (.lst (acc ++ [y]))) k0 ((D :: A) ++ B) ((D :: A) ++ B) D := chg_same List.mem_cons_self List.mem_cons_self S3 e2 (fun _ z => nomatch z) (fun _ _ z => nomatch z)
  have S4 := S3.mut c (x := none) (fun _ z => nomatch z)
  have so := setOs_same S3.ix (List.mem_cons_self (a := (k0, (D :: A) ++ B)) (l := os))
  rw [so, List.set_eq_of_length_le hk] at S4
  have bb : ∀ a, ban F ((k0, (D :: A) ++ B) :: os) as2 a → ban F ((k, B) :: (k0, D :: A) :: os) as2 a := fun a b => by
    rw [ban_cons, List.mem_append] at b
    rw [ban_cons, ban_cons]
    rcases b with (h | h) | h
    · exact .inr (.inl h)
    · exact .inl h
    · exact .inr (.inr h)
  have up : ∀ u v, im F.G (rts as2) (ban F ((k, B) :: (k0, D :: A) :: os) as2) u v H2 → im F.G (rts as2) (ban F ((k0, D :: (A ++ B)) :: os) as2) u v (upd H2 D (.lst (acc ++ [y]))) := fun u v h => by
    have h1 : im F.G (rts as2) (ban F ((k0, (D :: A) ++ B) :: os) as2) u v H2 := im_sub (fun a _ b => bb a b) _ _ h
    have := c.im h1
    rw [so] at this
    exact this
  have nd : ((D :: A) ++ B).Nodup := os_nodup _ (List.nodup_append.mp S3.nd).1 List.mem_cons_self
  have nD := (List.nodup_cons.mp (show (D :: (A ++ B)).Nodup from nd)).1
  refine ⟨acc, e2, ownFs_len h, S4, acc ++ [y], upd_same, ?_⟩
  exact ownFs_snoc up (ownF_mono up _ _ _ (fun a m => upd_ne fun z => nD (z ▸ List.mem_append_right _ m)) p) (fun a m => upd_ne fun z => nD (z ▸ List.mem_append_left _ m)) h2
end
section
variable {F : Fr} {δ : Dl} {wi : TI} {g : TG} {tt : TT} {te : TE} {vs : List Nat} {wl : M (List U)}
theorem enf_lc {wt : U → M Bool} {we : U → M U} (no : noOwn δ vs = true) (hs : Src F wi δ wl)
    (hb : ∀ u st r, wt u st = some r → ∃ δ', TgOk F g vs (wipD δ vs) u δ' ∧ EvT F tt δ' (wt u) ∧ EvNF F te δ' (we u)) : EvNF F (tLc wi g tt te vs) δ (lcW wl wt we) := fun os as st γ σ H c st' S q QQ k => by
  obtain ⟨us, st1, qs, q1⟩ := M.bind_inv q
  obtain ⟨r, st2, qr, q2⟩ := M.bind_inv q1
  obtain ⟨e, rfl⟩ := M.o_inv q2
  clear q q1 q2
  unfold szU at e
  by_cases hsz : r.length ≤ sizeLine
  case neg => rw [if_neg hsz] at e; cases e
  rw [if_pos hsz] at e
  cases e
  refine hs os as st (ghv σ δ vs ++ γ) σ H us st1 (S.ghost (ghv_ok S vs)) qs _ fun J H1 as1 gh g1 S1 W D hD => ?_
  obtain ⟨k0, hk0, hkl⟩ := nodup_fresh (os.map (·.1)) δ.length
  have S2 := S1.grow hk0 hD (Ex.new (o := .lst []) hD) (by rw [upd_same]; exact fun z => nomatch z)
  have hD0 : H D = none := g1.fresh hD
  have hkw : (wipD δ vs).length ≤ k0 := by rw [wipD_len]; exact hkl
  refine ⟨fun i m Hc => m = us.length - i ∧ i ≤ us.length ∧ ∃ as2 st2 accU rest A, Go as as2 H Hc ∧ (∀ a ∈ A, H a = none) ∧ LSF F os k0 D as2 st2 (gh ++ (ghv σ δ vs ++ γ)) Hc (L2.wipe σ vs) (wipD δ vs) accU A ∧ compM wt we (us.drop i) st2 = some (.ok rest, st') ∧ accU ++ rest = r,
    ⟨us.length, by simp, Nat.zero_le _, as1, st1, [], r, [], go_new (H1 := H) g1 hD0, (fun a m => nomatch m), ⟨S2.wipe vs, [], upd_same, rfl, rfl⟩, by rw [List.drop_zero]; exact qr, rfl⟩, ?_⟩
  rintro i m Hc ⟨rfl, hi, as2, st2, accU, rest, A, g2, hA, l2, q2, er⟩
  by_cases hlt : i < us.length
  · right
    refine ⟨W.goes i _ as2 st2 _ _ _ Hc hlt l2.S, fun H' => ∃ m', m' < us.length - i ∧ m' = us.length - (i + 1) ∧ i + 1 ≤ us.length ∧ ∃ as2 st2 accU rest A, Go as as2 H H' ∧ (∀ a ∈ A, H a = none) ∧ LSF F os k0 D as2 st2 (gh ++ (ghv σ δ vs ++ γ)) H' (L2.wipe σ vs) (wipD δ vs) accU A ∧ compM wt we (us.drop (i + 1)) st2 = some (.ok rest, st') ∧ accU ++ rest = r, fun H' ⟨m', h1, h2, h3⟩ => ⟨m', h1, h2, h3⟩, fun x H' y => ?_⟩
    have ed : us.drop i = us[i] :: us.drop (i + 1) := List.drop_eq_getElem_cons hlt
    rw [ed, compM] at q2
    obtain ⟨b, st3, q3, q4⟩ := M.bind_inv q2
    obtain ⟨δ', tg, ht, he⟩ := hb us[i] st2 _ q3
    obtain ⟨ex, px⟩ := W.yields i _ as2 st2 _ _ _ x Hc H' us[i] (List.getElem?_eq_getElem hlt) l2.S y
    have gx : Go as2 as2 Hc H' := Go.of_ex ex
    have l3 := l2.go gx (l2.S.ex ex)
    refine tg.2 _ as2 st2 _ H' _ x l3.S px _ fun σ2 wq S3 => ⟨by rw [wq, wipe_idem], ?_⟩
    have back : ∀ {os4 : Os} {as4 : SA} {st4 : Sto} {H4 : Hp}, SDo F os4 as4 st4 (gh ++ (ghv σ δ vs ++ γ)) H4 σ2 δ' → SDo F os4 as4 st4 (gh ++ (ghv σ δ vs ++ γ)) H4 (L2.wipe σ vs) (wipD δ vs) := fun S4 => by
      have := S4.wipe vs
      rw [wq, wipe_idem, tg.1, wipD_idem] at this
      exact this
    refine ht _ as2 st2 _ σ2 H' b st3 S3 q3 _ fun H3 as3 g3 S4 => ?_
    cases b with
    | false => exact ⟨us.length - (i + 1), by omega, rfl, hlt, as3, st3, accU, rest, A, (g2.trans gx).trans g3, hA, l3.go g3 (back S4), q4, er⟩
    | true =>
      simp only [if_true] at q4 ⊢
      obtain ⟨u, st5, q5, q6⟩ := M.bind_inv q4
      obtain ⟨r', st6, q7, q8⟩ := M.bind_inv q6
      cases q8
      refine he _ as3 st3 _ σ2 H3 u st5 S4 q5 _ fun y H5 as5 B g5 S5 py nB => ?_
      obtain ⟨k1, hk1, hkl1⟩ := nodup_fresh (((k0, D :: A) :: os).map (·.1)) δ.length
      obtain ⟨acc, e1, e2, l5⟩ := (l3.go g3 (back S4)).push hkw (by rw [wipD_len]; exact hkl1) hk0 g5 (back (S5 k1 hk1)) nB py
      refine ⟨acc, e1, ?_, us.length - (i + 1), by omega, rfl, hlt, as5, st5, accU ++ [u], r', A ++ B, go_new (H1 := H) (((g2.trans gx).trans g3).trans g5) hD0, fun a m => ?_, l5, q7, by rw [List.append_assoc]; exact er⟩
      · rw [e2]
        rw [← er, List.length_append, List.length_cons] at hsz
        omega
      · rcases List.mem_append.mp m with z | z
        · exact hA a z
        · exact ((g2.trans gx).trans g3).fresh (nB a z)
  · left
    have e : i = us.length := by omega
    subst e
    rw [List.drop_length] at q2
    cases q2
    rw [List.append_nil] at er
    subst er
    refine ⟨W.stops _ as2 _ _ _ _ Hc l2.S, ?_⟩
    obtain ⟨acc, e1, h1⟩ := l2.a
    refine k _ Hc as2 (D :: A) g2 (fun k hk => ?_) ⟨D, acc, A, rfl, rfl, e1, h1⟩ fun a m => ?_
    · have : SDo F ((k0, D :: A) :: os) as2 _ γ Hc σ δ := SDo.restore (g := []) (vs := vs) S no l2.S.unghost
      exact this.reix hkl hk
    · rcases List.mem_cons.mp m with z | z
      · rw [z]; exact hD0
      · exact hA a z
theorem enf_dK : EvNF F tDNewK δ (.ret (.dct [] [])) := fun os as st γ σ H c st' S q QQ k => by
  cases q
  intro p hp
  refine k _ _ as [p] (Go.of_ex (Ex.new hp)) (fun k hk => S.grow hk hp (Ex.new hp) (by rw [upd_same]; exact fun z => nomatch z)) ⟨p, [], [], rfl, rfl, upd_same, rfl, rfl, rfl⟩ fun a m => by rw [List.mem_singleton] at m; rw [m]; exact hp
theorem en_dK : EvN F (.dct .leaf) tDNewK δ (.ret (.dct [] [])) := fun os as st γ σ H c st' S q QQ k => by
  cases q
  intro p hp
  refine k _ _ as [p] (Go.of_ex (Ex.new hp)) (fun k hk => S.grow hk hp (Ex.new hp) (by rw [upd_same]; exact fun z => nomatch z)) ⟨p, [], [], rfl, rfl, upd_same, rfl, rfl, rfl⟩ fun a m => by rw [List.mem_singleton] at m; rw [m]; exact hp
end
end UX

set_option Elab.async false
set_option linter.all false
set_option maxRecDepth 100000
set_option maxHeartbeats 4000000
set_option autoImplicit false
namespace UX
open PySem PySem.Spec PyProof.Rows L2
open EL (Ex RB BOk Bn TK FnG okG)
def keyU : U → Option Key
  | .int i => some (.inl i)
  | .str x => some (.inr x)
  | _ => none
def keysU : List U → Option (List Key)
  | [] => some []
  | u :: us => match keyU u, keysU us with
    | some k, some ks => some (k :: ks)
    | _, _ => none
def tkeyU : U → Option (List Key)
  | .tup us => keysU us
  | _ => none
def idxK {κ : Type} [DecidableEq κ] (k : κ) : List κ → Option Nat
  | [] => none
  | x :: xs => if x = k then some 0 else (idxK k xs).map (· + 1)
section
variable {κ : Type} [DecidableEq κ]
theorem idxK_val {k : κ} : ∀ {ks : List κ} {vs : List V} {j : Nat} {v : V}, idxK k ks = some j → vs[j]? = some v → valV (ks.zip vs) k = some v
  | [], _, _, _, e, _ => by cases e
  | x :: ks, [], _, _, _, e => by simp at e
  | x :: ks, w :: vs, j, v, e, e2 => by
    unfold idxK at e
    rw [List.zip_cons_cons]
    by_cases z : x = k
    · rw [if_pos z] at e
      cases e
      simp at e2
      rw [valV_pos z, e2]
    · rw [if_neg z] at e
      obtain ⟨j', e', rfl⟩ := Option.map_eq_some_iff.mp e
      rw [valV_neg z]
      exact idxK_val e' (by simpa using e2)
theorem idxK_lt {k : κ} : ∀ {ks : List κ} {j : Nat}, idxK k ks = some j → j < ks.length
  | [], _, e => by cases e
  | x :: ks, j, e => by
    unfold idxK at e
    by_cases z : x = k
    · rw [if_pos z] at e; cases e; simp
    · rw [if_neg z] at e
      obtain ⟨j', e', rfl⟩ := Option.map_eq_some_iff.mp e
      have := idxK_lt e'
      simp; omega
theorem idxK_none {k : κ} : ∀ {ks : List κ} {vs : List V}, idxK k ks = none → valV (ks.zip vs) k = none
  | [], vs, _ => rfl
  | x :: ks, [], _ => rfl
  | x :: ks, w :: vs, e => by
    unfold idxK at e
    by_cases z : x = k
    · rw [if_pos z] at e; cases e
    · rw [if_neg z] at e
      rw [List.zip_cons_cons, valV_neg z]
      refine idxK_none ?_
      cases q : idxK k ks with
      | none => rfl
      | some j => rw [q] at e; cases e
theorem putK_zip {k : κ} {y : V} {ks : List κ} {vs : List V} (l : ks.length = vs.length) (e : idxK k ks = none) : putK (ks.zip vs) k y = (ks ++ [k]).zip (vs ++ [y]) := by
  rw [putK_new y (idxK_none e), List.zip_append l]
  rfl
theorem putK_set {k : κ} {y : V} : ∀ {ks : List κ} {vs : List V} {j : Nat}, ks.length = vs.length → ks.Nodup → idxK k ks = some j → (ks.zip vs).map (fun kv => if kv.1 = k then (kv.1, y) else kv) = ks.zip (vs.set j y)
  | [], _, _, _, _, e => by cases e
  | x :: ks, [], _, l, _, _ => by cases l
  | x :: ks, v :: vs, j, l, nd, e => by
    unfold idxK at e
    have nd' := List.nodup_cons.mp nd
    by_cases z : x = k
    · rw [if_pos z] at e; cases e
      rw [List.zip_cons_cons, List.map_cons, if_pos z, List.set_cons_zero, List.zip_cons_cons]
      congr 1
      have : ∀ p ∈ ks.zip vs, (if p.1 = k then (p.1, y) else p) = p := fun p m => if_neg fun q => nd'.1 (by rw [z, ← q]; exact (List.of_mem_zip m).1)
      rw [List.map_congr_left this, List.map_id']
    · rw [if_neg z] at e
      obtain ⟨j', e', rfl⟩ := Option.map_eq_some_iff.mp e
      rw [List.zip_cons_cons, List.map_cons, if_neg z, putK_set (by simpa using l) nd'.2 e', List.set_cons_succ, List.zip_cons_cons]
end
def sdAppU (node key x : U) : Option U := match node, keyU key with
  | .dct ks us, some k => if ks.length < sizeLine ∧ leafU x = true then match idxK k ks with
    | some j => match us[j]? with
      | some (.lst xs) => if xs.length < sizeLine ∧ xs.all leafU = true then some (.dct ks (us.set j (.lst (xs ++ [x])))) else none
      | _ => none
    | none => some (.dct (ks ++ [k]) (us ++ [.lst [x]])) else none
  | _, _ => none
section
variable {F : Fr} {os : Os} {as : SA} {st : Sto} {γ : List (U × V)} {H : Hp} {σ : L2.St} {δ : Dl}
theorem im_key {G : Cxt} {rs : List Addr} {B : Bn} {u : U} {v : V} {k : Key} (e : keyU u = some k) (h : im G rs B u v H) : v = kV k := by
  cases u <;> simp [keyU] at e
  · subst e; exact h
  · subst e; exact h
theorem HoleC.go0 {r : Bool} {i : Nat} {h : Hl} {v : V} {H' : Hp} (p : HoleC F os as H r i h v) (S : SDo F os as st γ H σ δ) (e : Ex H H') : HoleC F os as H' r i h v := by
  obtain ⟨a, A, A1, A', A2, e0, eA, o, pl⟩ := p.ex
  have kp : ∀ b ∈ A, H' b = H b := fun b m => by
    cases q : H b with
    | none => exact absurd q (S.ok b (.inr (.inr (mem_fl (List.mem_of_getElem? e0) m))))
    | some y => exact e b y q
  have t : ∀ u v, im F.G (rts as) (ban F os as) u v H → im F.G (rts as) (ban F os as) u v H' := fun u v h => im_st (RB.of_ex e) _ _ h
  refine ⟨a, A, A1, A', A2, e0, eA, ?_, fun rs2 B2 H2 u2 A'2 t1 t3 o2 => pl rs2 B2 H2 u2 A'2 (fun u v z => t1 u v (t u v z)) (fun b z => by rw [t3 b z, kp b (by rw [eA]; exact z.elim (fun z => List.mem_append_left _ z) fun z => List.mem_append_right _ (List.mem_append_right _ z))]) o2⟩
  have kA' : ∀ b ∈ A', H' b = H b := fun b m => kp b (by rw [eA]; exact List.mem_append_right _ (List.mem_append_left _ m))
  cases r with
  | true => exact ownC_mono t _ _ _ kA' o
  | false => exact ownF_mono t _ _ _ kA' o
theorem HoleC.key {r : Bool} {i j : Nat} {ks : List Key} {us : List U} {f : U → U} {v : V} {u : U} (p : HoleC F os as H r i (.dct ks us, f) v) (eu : us[j]? = some u) : ∃ d vs w, v = .ref d ∧ H d = some (.dK (ks.zip vs)) ∧ ks.length = us.length ∧ vs.length = us.length ∧ vs[j]? = some w ∧ HoleC F os as H false i (u, fun x => f (.dct ks (us.set j x))) w := by
  obtain ⟨a, A, A1, A', A2, e0, eA, o, pl⟩ := p.ex
  have o : ownF F.G (rts as) (ban F os as) (.dct ks us) v H A' := by cases r <;> exact o
  obtain ⟨d, vs, B, e1, e2, e3, l, z⟩ := o
  obtain ⟨w, B1, B', B2, f1', f2, f3, f4⟩ := ownFs_split z eu
  refine ⟨d, vs, w, e1, e3, l, ownFs_len z, f1', a, A, A1 ++ d :: B1, B', B2 ++ A2, e0, by rw [eA, e2, f2]; simp, f3, fun rs2 B2' H3 u2 A'2 t1 t3 o2 => ?_⟩
  have := pl rs2 B2' H3 (.dct ks (us.set j u2)) (d :: (B1 ++ (A'2 ++ B2))) t1 (fun b z => t3 b (z.imp (fun z => List.mem_append_left _ z) fun z => List.mem_append_right _ z)) (by
    have : ownF F.G rs2 B2' (.dct ks (us.set j u2)) v H3 (d :: (B1 ++ (A'2 ++ B2))) := ⟨d, vs, B1 ++ (A'2 ++ B2), e1, rfl, by rw [t3 d (.inl (List.mem_append_right _ List.mem_cons_self))]; exact e3, by rw [List.length_set]; exact l, f4 rs2 B2' H3 u2 A'2 t1 (fun b z => t3 b (z.imp (fun z => List.mem_append_right _ (List.mem_cons_of_mem _ z)) fun z => List.mem_append_left _ z)) o2⟩
    cases r <;> exact this)
  simpa using this
theorem blk_sdApp {S L : Type} {δn : S → Dl} {δl : L → Dl} {r : Bool} {j : Nat} {x : U} {tp ty : TE} {t2 : TS} {wc : M Cl} {wy : M U} {k : M (Out S L)} (hc : EvC F r tp δ wc) (hy : EvQ F ty δ wy) (hj : δ[j]? = some (some (.im x))) (h2 : Blk F t2 δ k δn δl) :
    Blk F (tSeq (tDrop (tBM F.G.K "list" rAppend (tDSetd tp ty (tLst tNil)) (tCons (tVar j) tNil))) t2) δ (.bind wc fun c => .bind wy fun y => .bind (.o (sdAppU c.2.1 y x)) fun d => .bind (putC c.1 (c.2.2 d)) fun _ => k) δn δl := fun D os as st γ σ H o st' Q q P => by
  obtain ⟨c, st2, q1, q2⟩ := M.bind_inv q
  obtain ⟨y, st3, q3, q4⟩ := M.bind_inv q2
  obtain ⟨d, st4, q5, q6⟩ := M.bind_inv q4
  obtain ⟨_, st5, q7, q8⟩ := M.bind_inv q6
  obtain ⟨ed, rfl⟩ := M.o_inv q5
  clear q q2 q4 q6
  refine hc os as st γ σ H c st2 Q q1 _ fun cv H2 as2 g2 S2 p2 => ?_
  obtain ⟨rfl, hq⟩ := hy os as2 st2 γ σ H2 y _ S2 q3
  obtain ⟨i, u1, f1⟩ := c
  cases u1 with
  | dct ks us =>
    simp only [sdAppU] at ed
    cases ek : keyU y with
    | none => rw [ek] at ed; cases ed
    | some key =>
      rw [ek] at ed
      simp only at ed
      split at ed
      case isFalse => cases ed
      rename_i hsz
      obtain ⟨a, A, A1, A', A2, e0, eA, ow, pl⟩ := p2.ex
      have ow' : ownF F.G (rts as2) (ban F os as2) (.dct ks us) cv H2 A' := by cases r <;> exact ow
      obtain ⟨dd, vs, B, e1, e2, e3, l, z⟩ := ow'
      have lv : ks.length = vs.length := by rw [ownFs_len z]; exact l
      refine ⟨dd, e1, .inl ⟨_, .inl e3⟩, hq _ fun yv py => ?_⟩
      have eyv := im_key ek py
      refine ⟨Nat.zero_le _, fun p hp => ?_⟩
      have ndp : dd ≠ p := fun z => by rw [z, hp] at e3; cases e3
      obtain ⟨xv, exv, pxv⟩ := S2.get hj
      refine ⟨ks.zip vs, key, by rw [upd_ne ndp]; exact e3, eyv, by rw [List.length_zip, ← lv, Nat.min_self]; exact hsz.1, fun w hw => ?_, fun hw => ?_⟩
      · cases ei : idxK key ks with
        | none => rw [idxK_none ei] at hw; cases hw
        | some jj =>
          rw [ei] at ed
          simp only at ed
          cases eu : us[jj]? with
          | none => rw [eu] at ed; cases ed
          | some u =>
            rw [eu] at ed
            cases u with
            | lst xs =>
              simp only at ed
              split at ed
              case isFalse => cases ed
              rename_i hxs
              cases ed
              have S3 := S2.ex (Ex.new (o := .lst []) hp)
              obtain ⟨d', vs', w', f1', f2', f3', f4', f5', hole⟩ := (p2.go0 S2 (Ex.new (o := .lst []) hp)).key eu
              have ed' : d' = dd := by rw [e1] at f1'; cases f1'; rfl
              subst ed'
              have ev : vs' = vs := by
                rw [upd_ne ndp, e3] at f2'
                have h1 : ks.zip vs = ks.zip vs' := by injection f2' with q; injection q
                have h2 := congrArg (List.map Prod.snd) h1
                rw [List.map_snd_zip (by omega), List.map_snd_zip (by omega)] at h2
                exact h2.symm
              subst ev
              have ww : w = w' := by rw [idxK_val ei f5'] at hw; cases hw; rfl
              subst ww
              obtain ⟨b, ys, C, g1', g3', zz, nB, lt, fin⟩ := hole.setL (us' := xs ++ [x]) S3
              obtain ⟨zC, hv⟩ := (flat_ownFs hxs.2).mp zz
              subst g1' zC
              refine ⟨.inl ⟨rfl, ys, EL.sqL_of g3'⟩, xv, exv, b, ys, xv, rfl, rfl, g3', by rw [imAll_len hv]; exact hxs.1, ?_⟩
              unfold putC at q7
              simp only [lt, if_true] at q7
              cases q7
              refine h2 D os as2 _ γ σ _ o st' (fin (ys ++ [xv]) fun H4 t4 _ => ?_) q8 P
              refine (flat_ownFs (by simp [hxs.2, hsz.2])).mpr ⟨rfl, imAll_snoc (imAll_map t4 hv) (t4 _ _ (im_st (RB.of_ex (Ex.new hp)) _ _ pxv))⟩
            | _ => cases ed
      · cases ei : idxK key ks with
        | some jj =>
          obtain ⟨w, ew⟩ : ∃ w, vs[jj]? = some w := ⟨_, List.getElem?_eq_getElem (by rw [← lv]; exact idxK_lt ei)⟩
          rw [idxK_val ei ew] at hw; cases hw
        | none =>
          rw [ei] at ed
          simp only at ed
          cases ed
          rw [putK_zip lv ei]
          refine ⟨.inl ⟨rfl, [], EL.sqL_of (by rw [upd_ne ndp.symm]; exact upd_same)⟩, xv, exv, p, [], xv, rfl, rfl, by rw [upd_ne ndp.symm]; exact upd_same, by decide, ?_⟩
          obtain ⟨k1, hk1, hl1⟩ := nodup_fresh (os.map (·.1)) δ.length
          have S3 := S2.grow hk1 hp (Ex.new (o := .lst []) hp) (by rw [upd_same]; exact fun z => nomatch z)
          have lt := S2.sto.lt e0
          unfold putC at q7
          simp only [lt, if_true] at q7
          cases q7
          have nd := sa_nodup as2 i (List.nodup_append.mp S2.nd).2.1 e0
          rw [eA, e2] at nd
          have nd1 := List.nodup_append.mp nd
          have nd2 := List.nodup_cons.mp nd1.2.1
          have np : ∀ c ∈ A, c ≠ p := fun c m e => S2.ok c (.inr (.inr (mem_fl (List.mem_of_getElem? e0) m))) (e ▸ hp)
          have mA1 : ∀ c ∈ A1, c ∈ A := fun c m => by rw [eA]; exact List.mem_append_left _ m
          have mA2 : ∀ c ∈ A2, c ∈ A := fun c m => by rw [eA]; exact List.mem_append_right _ (List.mem_append_right _ m)
          have mB : ∀ c ∈ B, c ∈ A := fun c m => by rw [eA, e2]; exact List.mem_append_right _ (List.mem_append_left _ (List.mem_cons_of_mem _ m))
          refine h2 D os _ _ γ σ _ o st' (S3.give (i := i) (x := a) (b := dd) (A0 := A) (A := [p]) (A1 := A1 ++ ((dd :: (B ++ [p])) ++ A2)) (H' := upd (upd (upd H2 p (.lst [])) dd (.dK ((ks ++ [key]).zip (vs ++ [V.ref p])))) p (.lst ([] ++ [xv]))) ?_ hl1 e0 (by rw [eA, e2]; exact List.mem_append_right _ List.mem_cons_self) (o := .dK (ks.zip vs)) (by rw [upd_ne ndp]; exact e3) (fun _ z => by cases z) (fun _ _ z => by cases z) (fun c w e ne m => ?_) (fun c ne => ?_) (fun c m xs => ?_) (fun c m w z => ?_) fun up => ?_) q8 P
          · rw [eA, e2]
            simp only [List.append_assoc, List.cons_append]
            refine List.Perm.append_left A1 (List.Perm.cons dd (List.Perm.append_left B ?_))
            exact (List.perm_append_comm (l₁ := [p]) (l₂ := A2))
          · rw [List.mem_singleton] at m
            rw [upd_ne m, upd_ne ne]; exact e
          · by_cases z1 : c = p
            · rw [z1, upd_same]; exact fun q => nomatch q
            · rw [upd_ne z1]
              by_cases z2 : c = dd
              · rw [z2, upd_same]; exact fun q => nomatch q
              · rw [upd_ne z2]; exact ne
          · rw [List.mem_singleton] at m; rw [m, upd_same]; exact fun z => nomatch z
          · rw [List.mem_singleton] at m; rw [m, upd_same]; exact fun z => nomatch z
          · have up2 : ∀ u v, im F.G (rts as2) (ban F os as2) u v H2 → im F.G (rts as2) (ban F os (as2.set i (a, A1 ++ ((dd :: (B ++ [p])) ++ A2)))) u v (upd (upd (upd H2 p (.lst [])) dd (.dK ((ks ++ [key]).zip (vs ++ [V.ref p])))) p (.lst ([] ++ [xv]))) := fun u v h => up u v (im_st (RB.of_ex (Ex.new hp)) _ _ (im_sub (sub_cons fun c m => by rw [List.mem_singleton] at m; rw [m]; exact hp) _ _ h))
            refine pl _ _ _ (.dct (ks ++ [key]) (us ++ [.lst [x]])) (dd :: (B ++ [p])) up2 (fun c z => ?_) ?_
            · have cA : c ∈ A := z.elim (mA1 c) (mA2 c)
              rw [upd_ne (np c cA), upd_ne fun e => ?_, upd_ne (np c cA)]
              subst e
              rcases z with z | z
              · exact nd1.2.2 c z c List.mem_cons_self rfl
              · exact nd2.1 (List.mem_append_right _ z)
            · have : ownF F.G (rts as2) (ban F os (as2.set i (a, A1 ++ ((dd :: (B ++ [p])) ++ A2)))) (.dct (ks ++ [key]) (us ++ [.lst [x]])) cv (upd (upd (upd H2 p (.lst [])) dd (.dK ((ks ++ [key]).zip (vs ++ [V.ref p])))) p (.lst ([] ++ [xv]))) (dd :: (B ++ [p])) := by
                refine ⟨dd, vs ++ [.ref p], B ++ [p], e1, rfl, by rw [upd_ne ndp, upd_same], by rw [List.length_append, List.length_append, l]; rfl, ownFs_snoc (u := .lst [x]) (v := .ref p) (A' := [p]) up2 ⟨p, [xv], [], rfl, rfl, upd_same, xv, [], [], [], rfl, rfl, (leaf_ownF hsz.2).mpr ⟨rfl, up2 _ _ pxv⟩, rfl, rfl⟩ (fun c m => ?_) z⟩
                · rw [upd_ne (np c (mB c m)), upd_ne fun e => nd2.1 (by rw [← e]; exact List.mem_append_left _ m), upd_ne (np c (mB c m))]
              cases r <;> exact this
  | _ => cases ed
end
end UX

set_option Elab.async false
set_option linter.all false
set_option maxRecDepth 100000
set_option maxHeartbeats 4000000
set_option autoImplicit false
namespace UX
open PySem PySem.Spec PyProof.Rows L2
open EL (Ex RB BOk Bn TK FnG okG)
def getU : U → U → Option (Option U)
  | .dct ks us, k => match keyU k with
    | some k => match idxK k ks with
      | some j => (us[j]?).map some
      | none => some none
    | none => none
  | .dcT ks us, k => match tkeyU k with
    | some k => match idxK k ks with
      | some j => (us[j]?).map some
      | none => some none
    | none => none
  | _, _ => none
section
variable {F : Fr} {os : Os} {as : SA} {H : Hp}
theorem im_keys {G : Cxt} {rs : List Addr} {B : Bn} : ∀ {us : List U} {vs : List V} {ks : List Key}, keysU us = some ks → imAll G rs B us vs H → vs = ks.map kV
  | [], _, _, e, h => by cases e; exact h
  | u :: us, _, ks, e, ⟨v, r, ev, h1, h2⟩ => by
    unfold keysU at e
    cases e1 : keyU u with
    | none => rw [e1] at e; cases e
    | some k =>
      cases e2 : keysU us with
      | none => rw [e1, e2] at e; cases e
      | some ks' =>
        rw [e1, e2] at e
        cases e
        rw [ev, im_key e1 h1, im_keys e2 h2]; rfl
theorem rd_get {d k : U} {dv kv : V} {r : Option U} (e : getU d k = some r) (hd : rd F os as d dv H) (hk : rd F os as k kv H) : ∃ a o, dv = .ref a ∧ IsD H a ∧ DGet H a kv o ∧ match r with
    | some u => ∃ v, o = some v ∧ im F.G (rts as) (ban F os as) u v H
    | none => o = none := by
  cases d with
  | dct ks us =>
    obtain ⟨a, vs, e1, n, e3, l, hv⟩ := hd
    simp only [getU] at e
    cases ek : keyU k with
    | none => rw [ek] at e; cases e
    | some key =>
      rw [ek] at e
      simp only at e
      have ekv : kv = kV key := by
        have hk0 := rd_im0 hk
        exact im_key ek hk0
      cases ei : idxK key ks with
      | none =>
        rw [ei] at e
        cases e
        exact ⟨a, none, e1, .inl ⟨_, e3⟩, .inl ⟨_, key, e3, ekv, (idxK_none ei).symm⟩, rfl⟩
      | some j =>
        rw [ei] at e
        simp only at e
        obtain ⟨u, eu, rfl⟩ := Option.map_eq_some_iff.mp e
        obtain ⟨v, ev, pv⟩ := imAll_get hv eu
        exact ⟨a, some v, e1, .inl ⟨_, e3⟩, .inl ⟨_, key, e3, ekv, (idxK_val ei ev).symm⟩, v, rfl, pv⟩
  | dcT ks us =>
    obtain ⟨a, vs, e1, n, e3, l, hv⟩ := hd
    simp only [getU] at e
    cases k with
    | tup kus =>
      simp only [tkeyU] at e
      cases ek : keysU kus with
      | none => rw [ek] at e; cases e
      | some key =>
        rw [ek] at e
        simp only at e
        obtain ⟨b, ws, eb, hb, hw⟩ := hk
        have ekv := im_keys ek hw
        rw [ekv] at hb
        cases ei : idxK key ks with
        | none =>
          rw [ei] at e
          cases e
          exact ⟨a, none, e1, .inr ⟨_, e3⟩, .inr ⟨_, key, b, e3, eb, hb, (idxK_none ei).symm⟩, rfl⟩
        | some j =>
          rw [ei] at e
          simp only at e
          obtain ⟨u, eu, rfl⟩ := Option.map_eq_some_iff.mp e
          obtain ⟨v, ev, pv⟩ := imAll_get hv eu
          exact ⟨a, some v, e1, .inr ⟨_, e3⟩, .inr ⟨_, key, b, e3, eb, hb, (idxK_val ei ev).symm⟩, v, rfl, pv⟩
    | _ => cases e
  | _ => cases e
end
def getD2 (d k z : U) : Option U := (getU d k).map fun r => r.getD z
section
variable {F : Fr} {δ : Dl} {td ty tx ta tb : TE} {wd wk wx wa wb : M U}
theorem ev_dget2 (hd : EvR F td δ wd) (hk : EvR F ty δ wk) (hx : EvW F tx δ wx) : EvW F (tDGet2 td ty tx) δ (.bind wd fun d => .bind wk fun k => .bind wx fun z => .o (getD2 d k z)) := fun os as st γ σ H c st' S q QQ kk => by
  obtain ⟨d, st1, q1, q2⟩ := M.bind_inv q
  obtain ⟨k, st2, q3, q4⟩ := M.bind_inv q2
  obtain ⟨z, st3, q5, q6⟩ := M.bind_inv q4
  obtain ⟨e, rfl⟩ := M.o_inv q6
  clear q q2 q4
  obtain ⟨r, er, ec⟩ := Option.map_eq_some_iff.mp e
  refine hd os as st γ σ H d _ S q1 _ fun dv H1 as1 g1 S1 pd => ?_
  have isd : ∃ a, dv = .ref a ∧ IsD H1 a := by
    cases d with
    | dct ks us => obtain ⟨a, vs, e1, n, e3, _⟩ := pd; exact ⟨a, e1, .inl ⟨_, e3⟩⟩
    | dcT ks us => obtain ⟨a, vs, e1, n, e3, _⟩ := pd; exact ⟨a, e1, .inr ⟨_, e3⟩⟩
    | _ => cases er
  obtain ⟨a, ea, hi⟩ := isd
  refine ⟨a, ea, hi, hk os as1 st1 γ σ H1 k _ S1 q3 _ fun kv H2 as2 g2 S2 pk => hx os as2 st2 γ σ H2 z _ S2 q5 _ fun zv H3 as3 g3 S3 pz => ?_⟩
  obtain ⟨a', o, ea', _, hg, hm⟩ := rd_get er (rd_go g3 (rd_go g2 pd)) (rd_go g3 pk)
  rw [ea] at ea'
  cases ea'
  refine ⟨o, hg, kk _ H3 as3 ((g1.trans g2).trans g3) S3 ?_⟩
  subst ec
  cases r with
  | none => rw [show o = none from hm]; exact pz
  | some u => obtain ⟨v, rfl, pv⟩ := hm; exact pv
def inU (k d : U) : Option U := (getU d k).map fun r => .bl r.isSome
def notInU (k d : U) : Option U := (getU d k).map fun r => .bl (!r.isSome)
theorem ev_din (hk : EvR F ty δ wk) (hd : EvR F td δ wd) : EvW F (tDIn ty td) δ (op2 inU wk wd) := fun os as st γ σ H c st' S q QQ kk => by
  obtain ⟨k, st1, q1, q2⟩ := M.bind_inv q
  obtain ⟨d, st2, q3, q4⟩ := M.bind_inv q2
  obtain ⟨e, rfl⟩ := M.o_inv q4
  clear q q2
  obtain ⟨r, er, ec⟩ := Option.map_eq_some_iff.mp e
  refine hk os as st γ σ H k _ S q1 _ fun kv H1 as1 g1 S1 pk => hd os as1 st1 γ σ H1 d _ S1 q3 _ fun dv H2 as2 g2 S2 pd => ?_
  obtain ⟨a, o, ea, _, hg, hm⟩ := rd_get er pd (rd_go g2 pk)
  refine ⟨a, o, ea, hg, kk _ H2 as2 (g1.trans g2) S2 ?_⟩
  subst ec
  cases r with
  | none => rw [show o = none from hm]; rfl
  | some u => obtain ⟨v, rfl, pv⟩ := hm; rfl
theorem ev_dnotin (hk : EvR F ty δ wk) (hd : EvR F td δ wd) : EvW F (tDNotIn ty td) δ (op2 notInU wk wd) := fun os as st γ σ H c st' S q QQ kk => by
  obtain ⟨k, st1, q1, q2⟩ := M.bind_inv q
  obtain ⟨d, st2, q3, q4⟩ := M.bind_inv q2
  obtain ⟨e, rfl⟩ := M.o_inv q4
  clear q q2
  obtain ⟨r, er, ec⟩ := Option.map_eq_some_iff.mp e
  refine hk os as st γ σ H k _ S q1 _ fun kv H1 as1 g1 S1 pk => hd os as1 st1 γ σ H1 d _ S1 q3 _ fun dv H2 as2 g2 S2 pd => ?_
  obtain ⟨a, o, ea, _, hg, hm⟩ := rd_get er pd (rd_go g2 pk)
  refine ⟨a, o, ea, hg, kk _ H2 as2 (g1.trans g2) S2 ?_⟩
  subst ec
  cases r with
  | none => rw [show o = none from hm]; rfl
  | some u => obtain ⟨v, rfl, pv⟩ := hm; rfl
def itemU (d k : U) : Option U := (getU d k).join
theorem ev_ditem (hd : EvR F td δ wd) (hk : EvR F ty δ wk) : EvW F (tDGet td ty) δ (op2 itemU wd wk) := fun os as st γ σ H c st' S q QQ kk => by
  obtain ⟨d, st1, q1, q2⟩ := M.bind_inv q
  obtain ⟨k, st2, q3, q4⟩ := M.bind_inv q2
  obtain ⟨e, rfl⟩ := M.o_inv q4
  clear q q2
  unfold itemU at e
  cases er : getU d k with
  | none => rw [er] at e; cases e
  | some r =>
    rw [er] at e
    cases r with
    | none => cases e
    | some u =>
      cases e
      refine hd os as st γ σ H d _ S q1 _ fun dv H1 as1 g1 S1 pd => hk os as1 st1 γ σ H1 k _ S1 q3 _ fun kv H2 as2 g2 S2 pk => ?_
      obtain ⟨a, o, ea, _, hg, hm⟩ := rd_get er (rd_go g2 pd) pk
      obtain ⟨v, rfl, pv⟩ := hm
      exact ⟨a, v, ea, hg, kk _ H2 as2 (g1.trans g2) S2 pv⟩
def absU : U → Option U
  | .int i => some (.int (if i < 0 then -i else i))
  | _ => none
def int1U : U → Option U
  | .int i => some (.int i)
  | .bl b => some (.int (if b then 1 else 0))
  | _ => none
def min2U : U → U → Option U
  | .int i, .int j => some (.int (if j < i then j else i))
  | _, _ => none
def max2U : U → U → Option U
  | .int i, .int j => some (.int (if j > i then j else i))
  | _, _ => none
theorem ok_abs {r : List V → Hp → VK → Prop} (hr : ∀ (i : Int) (H : Hp) (Q : VK), Q (.int (if i < 0 then -i else i)) H → r [.int i] H Q) : Op1Ok F r absU := fun os as H a c x ok ha e QQ k => by
  cases a <;> simp [absU] at e
  subst e
  rw [show x = _ from ha]
  exact hr _ _ _ (k _ H (Ex.refl H) rfl)
theorem ok_int1 {r : List V → Hp → VK → Prop} (hr : ∀ (i : Int) (H : Hp) (Q : VK), Q (.int i) H → r [.int i] H Q) (hb : ∀ (b : Bool) (H : Hp) (Q : VK), Q (.int (if b then 1 else 0)) H → r [.bl b] H Q) : Op1Ok F r int1U := fun os as H a c x ok ha e QQ k => by
  cases a <;> simp [int1U] at e
  · subst e
    rw [show x = _ from ha]
    exact hb _ _ _ (k _ H (Ex.refl H) rfl)
  · subst e
    rw [show x = _ from ha]
    exact hr _ _ _ (k _ H (Ex.refl H) rfl)
theorem ev_cb2 {r : List V → Hp → VK → Prop} {f : U → U → Option U} (h : ∀ os as H a b c x y, rd F os as a x H → rd F os as b y H → f a b = some c → ∀ QQ : VK, (∀ v H', Ex H H' → im F.G (rts as) (ban F os as) c v H' → QQ v H') → r [x, y] H QQ) (ha : EvR F ta δ wa) (hb : EvR F tb δ wb) : EvW F (tCB r (tCons ta (tCons tb tNil))) δ (op2 f wa wb) := fun os as st γ σ H c st' S q QQ k => by
  obtain ⟨a, st1, qa, q1⟩ := M.bind_inv q
  obtain ⟨b, st2, qb, q2⟩ := M.bind_inv q1
  obtain ⟨e, rfl⟩ := M.o_inv q2
  exact ha os as st γ σ H a st1 S qa _ fun x H1 as1 g1 S1 px => hb os as1 st1 γ σ H1 b _ S1 qb _ fun y H2 as2 g2 S2 py => h os as2 H2 a b c x y (rd_go g2 px) py e QQ fun v H3 e3 p3 => k v H3 as2 ((g1.trans g2).trans (Go.of_ex e3)) (S2.ex e3) p3
theorem ev_min2 (ha : EvR F ta δ wa) (hb : EvR F tb δ wb) : EvW F (tCB (fun xs H Q => ∃ i j, xs = [.int i, .int j] ∧ Q (.int (if j < i then j else i)) H) (tCons ta (tCons tb tNil))) δ (op2 min2U wa wb) := ev_cb2 (fun os as H a b c x y px py e QQ k => by
  cases a <;> cases b <;> simp [min2U] at e
  subst e
  exact ⟨_, _, by rw [show x = _ from px, show y = _ from py], k _ H (Ex.refl H) rfl⟩) ha hb
theorem ev_max2 (ha : EvR F ta δ wa) (hb : EvR F tb δ wb) : EvW F (tCB (fun xs H Q => ∃ i j, xs = [.int i, .int j] ∧ Q (.int (if j > i then j else i)) H) (tCons ta (tCons tb tNil))) δ (op2 max2U wa wb) := ev_cb2 (fun os as H a b c x y px py e QQ k => by
  cases a <;> cases b <;> simp [max2U] at e
  subst e
  exact ⟨_, _, by rw [show x = _ from px, show y = _ from py], k _ H (Ex.refl H) rfl⟩) ha hb
end
end UX

set_option Elab.async false
set_option linter.all false
set_option maxRecDepth 100000
set_option maxHeartbeats 4000000
set_option autoImplicit false
namespace UX
open PySem PySem.Spec PyProof.Rows L2
open EL (Ex RB BOk Bn TK FnG okG rEqU rNeU)
section
variable {F : Fr} {S L : Type} {δ : Dl} {t2 : TS} {δn : S → Dl} {δl : L → Dl}
theorem blk_par2 {i0 i1 : Nat} {ta tb : TE} {wa wb : M U} {k : U → U → M (Out S L)} (ha : EvW F ta δ wa) (hb : EvW F tb δ wb) (h2 : ∀ a b, Blk F t2 ((δ.set i0 (some (.im a))).set i1 (some (.im b))) (k a b) δn δl) : Blk F (tSeq (tPar i0 i1 (tCons ta (tCons tb tNil))) t2) δ (.bind wa fun a => .bind wb fun b => k a b) δn δl := fun D os as st γ σ H o st' Q q P => by
  obtain ⟨a, st1, q1, q2⟩ := M.bind_inv q
  obtain ⟨b, st2, q3, q4⟩ := M.bind_inv q2
  clear q q2
  exact ha os as st γ σ H a _ Q q1 _ fun x H1 as1 g1 S1 px => hb os as1 st1 γ σ H1 b _ S1 q3 _ fun y H2 as2 g2 S2 py => ⟨x, y, rfl, h2 a b D os as2 st2 γ _ H2 o st' ((S2.set (x := .im a) (im_go g2 px)).set (x := .im b) py) q4 P⟩
end
section
variable {F : Fr} {δ : Dl} {tt : TT} {te : TE}
theorem lcp2 {i j : Nat} {vs : List Nat} {wt : U → U → M Bool} {we : U → U → M U} (hi : i ∈ vs) (hj : j ∈ vs) (h : ∀ a b, EvT F tt ((δ.set i (some (.im a))).set j (some (.im b))) (wt a b) ∧ EvW F te ((δ.set i (some (.im a))).set j (some (.im b))) (we a b)) :
    ∀ u st r, un2 u wt st = some r → ∃ δ', TgOk F (gTup F.G.K 2 (gCons (gName i) (gCons (gName j) gNil))) vs δ u δ' ∧ EvT F tt δ' (un2 u wt) ∧ EvW F te δ' (un2 u we) := by
  intro u st r e
  cases u with
  | tup us => ?_
  | _ => cases e
  match us, e with
  | [a, b], e => exact ⟨_, tg_two hi hj, h a b⟩
end
end UX

set_option Elab.async false
set_option linter.all false
set_option maxRecDepth 100000
set_option maxHeartbeats 4000000
set_option autoImplicit false
namespace UX
open PySem PySem.Spec PyProof.Rows L2
open EL (Ex RB BOk Bn TK FnG okG rEqU rNeU)
def zipL (a b : List U) : List U := List.zipWith (fun x y => U.tup [x, y]) a b
def zipU : U → U → Option (List U)
  | .lst a, .lst b => some (zipL a b)
  | .tup a, .tup b => some (zipL a b)
  | _, _ => none
def zipW (w w' : M U) : M (List U) := .bind w fun u => .bind w' fun u' => .o (zipU u u')
theorem zipL_len (a b : List U) : (zipL a b).length = min a.length b.length := List.length_zipWith
theorem zipL_get {a b : List U} {i : Nat} {u : U} (h : (zipL a b)[i]? = some u) : ∃ x y, a[i]? = some x ∧ b[i]? = some y ∧ u = .tup [x, y] := by
  unfold zipL at h
  rw [List.getElem?_zipWith] at h
  cases ea : a[i]? with
  | none => rw [ea] at h; cases h
  | some x =>
    cases eb : b[i]? with
    | none => rw [ea, eb] at h; cases h
    | some y => rw [ea, eb] at h; cases h; exact ⟨x, y, rfl, rfl, rfl⟩
section
variable {F : Fr} {δ : Dl} {te ta tb : TE} {w wa wb : M U}
theorem zip_pair {os : Os} {as : SA} {x y : U} {v v' : V} {H : Hp} {T : Addr} (hT : H T = none) (hx : im F.G (rts as) (ban F os as) x v H) (hy : im F.G (rts as) (ban F os as) y v' H) : im F.G (rts as) (ban F os as) (.tup [x, y]) (.ref T) (upd H T (.tup [v, v'])) :=
  ⟨T, [v, v'], rfl, upd_same, v, [v'], rfl, im_st (RB.of_ex (Ex.new hT)) _ _ hx, v', [], rfl, im_st (RB.of_ex (Ex.new hT)) _ _ hy, rfl⟩
theorem src_zip (ha : EvW F ta δ wa) (hb : EvW F tb δ wb) : Src F (RZ.iZipA F.G.K (tCons ta (tCons tb tNil))) δ (zipW wa wb) := fun os as st γ σ H us st' S q Q k => by
  obtain ⟨u, st1, qu, q1⟩ := M.bind_inv q
  obtain ⟨u', st2, qu', q2⟩ := M.bind_inv q1
  obtain ⟨e, rfl⟩ := M.o_inv q2
  refine ha os as st γ σ H _ _ S qu _ fun v H1 as1 g1 S1 p1 => ?_
  have S1' : SDo F os as1 st1 ([(u, v)] ++ γ) H1 σ δ := S1.ghost fun z m => by rw [List.mem_singleton] at m; rw [m]; exact p1
  refine hb os as1 st1 _ σ H1 _ _ S1' qu' _ fun v' H2 as2 g2 S2 p2 => ?_
  have S3 : SDo F os as2 st' ([(u', v')] ++ ([(u, v)] ++ γ)) H2 σ δ := S2.ghost fun z m => by rw [List.mem_singleton] at m; rw [m]; exact p2
  have pu : im F.G (rts as2) (ban F os as2) u v H2 := S2.gh (u, v) List.mem_cons_self
  have G3 : SDo F os as2 st' ([(u', v'), (u, v)] ++ γ) H2 σ δ := S3
  clear S1 S1' S2 S3 q q1 q2
  cases u <;> cases u' <;> simp [zipU] at e
  · subst e
    obtain ⟨a, vs, rfl, hs, hv⟩ := id pu
    obtain ⟨b, ws, rfl, hs', hv'⟩ := id p2
    refine ⟨a, b, vs, ws, rfl, .inr ⟨EL.sqT_of hs, EL.sqT_of hs', k _ H2 as2 _ (g1.trans g2) G3 ⟨fun i os as st γ σ δ H hi S2 => ?_, fun os as st γ σ δ H S2 => ?_, fun i os as st γ σ δ x H H' z e S2 y => ?_⟩⟩⟩ <;> obtain ⟨a2, vs2, ev2, ht, hv2⟩ := S2.gh _ (List.mem_cons_of_mem _ List.mem_cons_self) <;> obtain ⟨b2, ws2, ev3, ht', hv3⟩ := S2.gh _ List.mem_cons_self <;> cases ev2 <;> cases ev3
    · rw [zipL_len] at hi
      have h1 : i < vs2.length := by rw [imAll_len hv2]; omega
      have h2 : i < ws2.length := by rw [imAll_len hv3]; omega
      exact ⟨vs2, ws2, vs2[i], ws2[i], EL.sqT_of ht, EL.sqT_of ht', List.getElem?_eq_getElem h1, List.getElem?_eq_getElem h2⟩
    · refine ⟨vs2, ws2, EL.sqT_of ht, EL.sqT_of ht', ?_⟩
      rw [zipL_len, imAll_len hv2, imAll_len hv3]
      omega
    · obtain ⟨T, x1, x2, rfl, hT, rfl, f1, f2⟩ := y
      obtain ⟨c, d, e1, e2, rfl⟩ := zipL_get e
      obtain ⟨y1, e3, p3⟩ := imAll_get hv2 e1
      obtain ⟨y2, e4, p4⟩ := imAll_get hv3 e2
      rw [f1 _ (EL.sqT_of ht)] at e3
      rw [f2 _ (EL.sqT_of ht')] at e4
      cases e3; cases e4
      exact ⟨Ex.new hT, zip_pair hT p3 p4⟩
  · subst e
    obtain ⟨a, vs, rfl, nb, hs, hv⟩ := id pu
    obtain ⟨b, ws, rfl, nb', hs', hv'⟩ := id p2
    refine ⟨a, b, vs, ws, rfl, .inl ⟨EL.sqL_of hs, EL.sqL_of hs', k _ H2 as2 _ (g1.trans g2) G3 ⟨fun i os as st γ σ δ H hi S2 => ?_, fun os as st γ σ δ H S2 => ?_, fun i os as st γ σ δ x H H' z e S2 y => ?_⟩⟩⟩ <;> obtain ⟨a2, vs2, ev2, n2, ht, hv2⟩ := S2.gh _ (List.mem_cons_of_mem _ List.mem_cons_self) <;> obtain ⟨b2, ws2, ev3, n3, ht', hv3⟩ := S2.gh _ List.mem_cons_self <;> cases ev2 <;> cases ev3
    · rw [zipL_len] at hi
      have h1 : i < vs2.length := by rw [imAll_len hv2]; omega
      have h2 : i < ws2.length := by rw [imAll_len hv3]; omega
      exact ⟨vs2, ws2, vs2[i], ws2[i], EL.sqL_of ht, EL.sqL_of ht', List.getElem?_eq_getElem h1, List.getElem?_eq_getElem h2⟩
    · refine ⟨vs2, ws2, EL.sqL_of ht, EL.sqL_of ht', ?_⟩
      rw [zipL_len, imAll_len hv2, imAll_len hv3]
      omega
    · obtain ⟨T, x1, x2, rfl, hT, rfl, f1, f2⟩ := y
      obtain ⟨c, d, e1, e2, rfl⟩ := zipL_get e
      obtain ⟨y1, e3, p3⟩ := imAll_get hv2 e1
      obtain ⟨y2, e4, p4⟩ := imAll_get hv3 e2
      rw [f1 _ (EL.sqL_of ht)] at e3
      rw [f2 _ (EL.sqL_of ht')] at e4
      cases e3; cases e4
      exact ⟨Ex.new hT, zip_pair hT p3 p4⟩
end
def gNames : List Nat → TGs
  | [] => gNil
  | i :: is => gCons (gName i) (gNames is)
def imS (δ : Dl) : List Nat → List U → Dl
  | i :: is, u :: us => imS (δ.set i (some (.im u))) is us
  | _, _ => δ
section
variable {F : Fr}
theorem names_ok {vs0 : List Nat} {os : Os} {as : SA} {st : Sto} {γ : List (U × V)} {H : Hp} {Q : L2.St → Hp → Prop} : ∀ {is : List Nat} {us : List U} {vs : List V} {σ : L2.St} {δ : Dl}, (∀ i ∈ is, i ∈ vs0) → is.length = us.length → SDo F os as st γ H σ δ → imAll F.G (rts as) (ban F os as) us vs H → (∀ σ', wipe σ' vs0 = wipe σ vs0 → SDo F os as st γ H σ' (imS δ is us) → Q σ' H) → gNames is vs σ H Q
  | [], [], vs, σ, δ, _, _, S, h, k => ⟨h, k σ rfl S⟩
  | i :: is, u :: us, _, σ, δ, hm, hl, S, ⟨v, r, e, h1, h2⟩, k => ⟨v, r, e, names_ok (fun j m => hm j (List.mem_cons_of_mem _ m)) (by simpa using hl) (S.set (x := .im u) h1) h2 fun σ' w S' => k σ' (by rw [w, wipe_set _ _ _ _ (hm i List.mem_cons_self)]) S'⟩
  | [], _ :: _, _, _, _, _, h, _, _, _ => by cases h
  | _ :: _, [], _, _, _, _, h, _, _, _ => by cases h
theorem wipD_imS {vs0 : List Nat} : ∀ {is : List Nat} {us : List U} {δ : Dl}, (∀ i ∈ is, i ∈ vs0) → wipD (imS δ is us) vs0 = wipD δ vs0
  | [], _, _, _ => by simp [imS]
  | _ :: _, [], _, _ => by simp [imS]
  | i :: is, u :: us, δ, h => by
    rw [imS, wipD_imS fun j m => h j (List.mem_cons_of_mem _ m), wipD_set _ _ _ _ (h i List.mem_cons_self)]
theorem tg_many {is vs : List Nat} {us : List U} {δ : Dl} (h : ∀ i ∈ is, i ∈ vs) (hl : is.length = us.length) : TgOk F (gTup F.G.K is.length (gNames is)) vs δ (.tup us) (imS δ is us) := ⟨wipD_imS h, fun os as st γ H σ v S ⟨p, xs, e, hs, hx⟩ Q k => ⟨p, xs, e, EL.sqT_of hs, by rw [imAll_len hx, hl], names_ok h hl S hx k⟩⟩
def un4 {α : Type} (u : U) (k : U → U → U → U → M α) : M α := match u with
  | .tup [a, b, c, d] => k a b c d
  | _ => .fail
def un5 {α : Type} (u : U) (k : U → U → U → U → U → M α) : M α := match u with
  | .tup [a, b, c, d, e] => k a b c d e
  | _ => .fail
section
variable {α : Type} {P : Dl → M α → Prop} {δ : Dl} {i0 i1 i2 i3 i4 i5 : Nat} {vs : List Nat}
theorem pat6 (h0 : i0 ∈ vs) (h1 : i1 ∈ vs) (h2 : i2 ∈ vs) (h3 : i3 ∈ vs) (h4 : i4 ∈ vs) (h5 : i5 ∈ vs) {k : U → U → U → U → U → U → M α} (h : ∀ a b c d e f, P (imS δ [i0, i1, i2, i3, i4, i5] [a, b, c, d, e, f]) (k a b c d e f)) : ∀ u st r, un6 u k st = some r → ∃ δ', TgOk F (gTup F.G.K 6 (gCons (gName i0) (gCons (gName i1) (gCons (gName i2) (gCons (gName i3) (gCons (gName i4) (gCons (gName i5) gNil))))))) vs δ u δ' ∧ P δ' (un6 u k) := by
  intro u st r e
  cases u <;> first | (cases e; done) | skip
  rename_i us
  match us, e with
  | [a, b, c, d, f, g], e => exact ⟨_, tg_many (is := [i0, i1, i2, i3, i4, i5]) (by simp [h0, h1, h2, h3, h4, h5]) rfl, h a b c d f g⟩
end
end
section
variable {F : Fr} {S L : Type} {δ : Dl} {t2 : TS} {δn : S → Dl} {δl : L → Dl}
end
end UX

set_option Elab.async false
set_option linter.all false
set_option maxRecDepth 100000
set_option maxHeartbeats 4000000
set_option autoImplicit false
namespace UX
open PySem PySem.Spec PyProof.Rows L2
open EL (Ex RB BOk Bn TK FnG okG rEqU rNeU)
def vTab (at_ : Str → Addr) : U → Option V
  | .top x => some (.ref (at_ x))
  | .str s => some (.str s)
  | .int i => some (.int i)
  | _ => none
theorem vTab_im {G : Cxt} {rs : List Addr} {B : Bn} {H : Hp} : ∀ {u : U} {v : V}, vTab G.at_ u = some v → im G rs B u v H
  | .top x, _, e => by cases e; rfl
  | .str s, _, e => by cases e; rfl
  | .int s, _, e => by cases e; rfl
structure TabF (K : PySem.W.Frag) (at_ : Str → Addr) (w : World) (d : Addr) (tab : List (Str × U)) : Prop where
  kd : ∃ es n, KDict K w d es n
  val : ∀ z u, tab.lookup z = some u → ∃ u0 v, PySem.W.nsIn K d z = some (some u0) ∧ vTab at_ u = some v ∧ RelV v u0
  no : ∀ z, tab.lookup z = none → PySem.W.nsIn K d z = some none
def rNotTab (K : PySem.W.Frag) (d : Addr) : R2 := fun x y H Q => ∃ (z : Str) (r : Option Value), x = .str z ∧ y = .ref d ∧ PySem.W.nsIn K d z = some r ∧ Q (.bl (!r.isSome)) H
theorem op_notTab {X : Cx} {at_ : Str → Addr} {d : Addr} {tab : List (Str × U)} (T : TabF X.K at_ X.w d tab) : OpR X (compareOp .NotIn) (rNotTab X.K d) := by
  obtain ⟨es, n, D⟩ := T.kd
  exact op_notIn_kd D
def notTabU (nm : Str) (tab : List (Str × U)) : U → U → Option U
  | .str z, .top x => if x = nm then some (.bl (tab.lookup z).isNone) else none
  | _, _ => none
def itemTabU (nm : Str) (tab : List (Str × U)) : U → U → Option U
  | .top x, .str z => if x = nm then tab.lookup z else none
  | _, _ => none
section
variable {F : Fr} {w : World} {nm : Str} {tab : List (Str × U)} {δ : Dl}
theorem ev_top {x : Str} : EvW F (tC (.ref (F.G.at_ x))) δ (.ret (.top x)) := ev_c fun _ _ _ => rfl
theorem ok_notTab (T : TabF F.G.K F.G.at_ w (F.G.at_ nm) tab) : OpOk F (rNotTab F.G.K (F.G.at_ nm)) (notTabU nm tab) := fun os as H a b c x y ok ha hb e QQ k => by
  cases a <;> cases b <;> simp [notTabU] at e
  rename_i z _
  obtain ⟨rfl, rfl⟩ := e
  cases q : tab.lookup z with
  | none => exact ⟨z, none, ha, hb, T.no z q, k _ H (Ex.refl H) (by rw [q]; rfl)⟩
  | some u =>
    obtain ⟨u0, v, h1, _, _⟩ := T.val z u q
    exact ⟨z, some u0, ha, hb, h1, k _ H (Ex.refl H) (by rw [q]; rfl)⟩
theorem ok_itemTab (T : TabF F.G.K F.G.at_ w (F.G.at_ nm) tab) : OpOk F (rIxD F.G.K w) (itemTabU nm tab) := fun os as H a b c x y ok ha hb e QQ k => by
  cases a <;> cases b <;> simp [itemTabU] at e
  rename_i z
  obtain ⟨rfl, e⟩ := e
  obtain ⟨u0, v, h1, h2, h3⟩ := T.val z c e
  obtain ⟨es, n, D⟩ := T.kd
  exact ⟨_, z, v, ha, hb, ⟨es, n, u0, D.at_, D.lit, h1, h3⟩, k _ H (Ex.refl H) (vTab_im h2)⟩
end
def tCallJ (at_ : Str → Addr) (G : Cxt) (i : Nat) (fs : List (Str × (List U → M U))) (E : XK) (t : TA) : TE := fun σ H Q => ∃ p ∈ fs, tCallL i (at_ p.1) (spM G p.2) [] E t σ H Q
theorem pe_callJ {X : Cx} {at_ : Str → Addr} {G : Cxt} {i : Nat} {fs : List (Str × (List U → M U))} {E : XK} {t : TA} {e : Expr} (h : ∀ p ∈ fs, PE X e (tCallL i (at_ p.1) (spM G p.2) [] E t)) : PE X e (tCallJ at_ G i fs E t) :=
  ⟨fun pins s σ H Q I ⟨p, m, q⟩ => (h p m).run pins s σ H Q I q⟩
theorem callJ_nil {X : Cx} {at_ : Str → Addr} {G : Cxt} {i : Nat} {E : XK} {t : TA} {e : Expr} : ∀ p ∈ ([] : List (Str × (List U → M U))), PE X e (tCallL i (at_ p.1) (spM G p.2) [] E t) := fun _ m => nomatch m
theorem callJ_cons {X : Cx} {at_ : Str → Addr} {G : Cxt} {i : Nat} {E : XK} {t : TA} {e : Expr} {x : Str} {f : List U → M U} {l : List (Str × (List U → M U))} (h : PE X e (tCallL i (at_ x) (spM G f) [] E t)) (k : ∀ p ∈ l, PE X e (tCallL i (at_ p.1) (spM G p.2) [] E t)) : ∀ p ∈ (x, f) :: l, PE X e (tCallL i (at_ p.1) (spM G p.2) [] E t) := fun p m => (List.mem_cons.mp m).elim (fun z => z ▸ h) (k p)
def callJM (fs : List (Str × (List U → M U))) (u : U) (wa : M (List U)) : M U := match u with
  | .top x => match fs.lookup x with
    | some f => callM f wa
    | none => .fail
  | _ => .fail
theorem lookup_mem {α : Type} : ∀ {l : List (Str × α)} {x : Str} {a : α}, l.lookup x = some a → (x, a) ∈ l
  | [], _, _, h => nomatch h
  | (y, b) :: l, x, a, h => by
    rw [List.lookup_cons] at h
    split at h
    · rename_i e
      cases h
      rw [show x = y from by simpa using e]
      exact List.mem_cons_self
    · exact List.mem_cons_of_mem _ (lookup_mem h)
theorem ev_callJ {F : Fr} {δ : Dl} {i : Nat} {fs : List (Str × (List U → M U))} {E : XK} {ta : TA} {wa : M (List U)} {u : U} (hi : δ[i]? = some (some (.im u))) (h : EvAW F ta δ wa) : EvW F (tCallJ F.G.at_ F.G i fs E ta) δ (callJM fs u wa) := fun os as st γ σ H c st' S q QQ k => by
  obtain ⟨v, hv, pv⟩ := S.get hi
  cases u with
  | top x => ?_
  | _ => cases q
  have pv : v = .ref (F.G.at_ x) := pv
  subst pv
  simp only [callJM] at q
  cases e : fs.lookup x with
  | none => rw [e] at q; cases q
  | some f =>
    rw [e] at q
    exact ⟨(x, f), lookup_mem e, hv, ev_call (E := E) h os as st γ σ H c st' S q QQ k⟩
theorem pg_tupK {X : Cx} (K : PySem.W.Frag) {es : List Expr} {k : Nat} {t : TGs} {n : Nat} {pos : Pos} (hc : X.calm = true) (h : PGs X es t) (hn : (assignEach es X.env).length = n := by rfl) (hst : (assignEach es X.env).findIdx? (·.1) = none := by rfl) (hK : X.K = K := by rfl) : PG X (.Tuple es k pos) (gTup K n t) := hK ▸ pg_tup hc h hn hst
section
variable {F : Fr} {S L : Type} {δ : Dl} {t2 : TS} {δn : S → Dl} {δl : L → Dl}
end
end UX

set_option Elab.async false
set_option linter.all false
set_option maxRecDepth 100000
set_option maxHeartbeats 4000000
set_option autoImplicit false
namespace UX
open PySem PySem.Spec PyProof.Rows L2
section
variable {X : Cx} (K : PySem.W.Frag)
theorem pe_fldK {e : Expr} {ta : TE} {f : Str} {pos : Pos} (he : PE X e ta) (hb : attributeBase e f X.env (eval e X.env) = eval e X.env) (hK : X.K = K := by rfl) : PE X (.Attribute e f pos) (tFld K ta f) := hK ▸ pe_fld he hb
theorem pi_zipAK {e e2 : Expr} {ta : TA} {p pos tpos : Pos} {elts : List Expr} {kk : Nat} (hg : Gl X "zip") (hm : X.mg "zip" = none) (ha : PA X [e, e2] ta)
    (hs : starEach [e, e2] X.env = (false, eval e X.env) :: starEach [e2] X.env := by rfl) (hpl : (backTo pos (starEach [e2] X.env)).any (·.1) = false := by rfl) (hK : X.K = K := by rfl) :
    PI X (.Tuple elts kk tpos) (.Call (.Name "zip" p) [e, e2] [] pos) (RZ.iZipA K ta) := hK ▸ RZ.pi_zipA hg hm ha hs hpl
theorem ix_kdictK (w : World) (hK : X.K = K := by rfl) (hw : X.w = w := by rfl) : IxR X (rIxD K w) := hK ▸ hw ▸ ix_kdict
theorem op_notTabK {at_ : Str → Addr} {w : World} {d : Addr} {tab : List (Str × U)} (T : TabF K at_ w d tab) (hK : X.K = K := by rfl) (hw : X.w = w := by rfl) : OpR X (compareOp .NotIn) (rNotTab K d) := by
  subst hK hw
  exact op_notTab T
end
open EL (Ex RB BOk Bn TK FnG okG rEqU rNeU)
section
variable {F : Fr} {S L : Type} {δ : Dl} {wi : TI} {g : TG} {tb t1 t2 : TS} {wl : M (List U)} {δ2 δl' : L → Dl} {tt : TT} {wt : M Bool}
theorem blk_forL (dr vs : List Nat) (δl : S → Dl) {f : U → S → M (Out S S)} {s0 : S} (h0 : wipD δ dr = δl s0) (hs : Src F wi δ wl)
    (hb : ∀ s u st r, f u s st = some r → ∃ δ', TgOk F g vs (δl s) u δ' ∧ Blk F tb δ' (f u s) δl δl) : Blk F (tFor wi g tb) δ (.bind wl fun us => forO f us s0) δl δ2 :=
  blk_for (vs := vs) hs (h0 ▸ weak_wip δ dr) fun u s => hb s u
theorem blk_whileL (dr : List Nat) (δl : S → Dl) {tc : TT} {c : S → M Bool} {b : S → M (Out S S)} {s0 : S} (h0 : wipD δ dr = δl s0) (hc : ∀ s, EvT F tc (δl s) (c s))
    (hb : ∀ s, Blk F tb (δl s) (b s) δl δl) : Blk F (tWhile tc tb) δ (whileO c b s0) δl δ2 :=
  blk_while (h0 ▸ weak_wip δ dr) hc hb
theorem blk_ifL (δn : S → Dl) {wo wu : M (Out S L)} (h : EvT F tt δ wt) (h1 : Blk F t1 δ wo δn δl') (h2 : Blk F t2 δ wu δn δl') : Blk F (tIfS tt t1 t2) δ (iteW wt wo wu) δn δl' := blk_if h h1 h2
end
end UX

set_option Elab.async false
set_option linter.all false
set_option maxRecDepth 100000
set_option maxHeartbeats 4000000
namespace UX
open PySem PySem.Spec PyProof.Rows L2
section
variable {P : Program} {w : World} {A : Around} {E : Value → Shared → Prop} {s : Shared}
end
end UX

set_option Elab.async false
set_option linter.all false
set_option maxRecDepth 100000
set_option maxHeartbeats 4000000
set_option autoImplicit false
namespace UX
open PySem PySem.Spec PyProof.Rows L2
open EL (Ex RB BOk Bn TK)
def B0 : Int := 1099511627776
def intsL : List U → Option (List Int)
  | [] => some []
  | .int i :: r => (intsL r).map (i :: ·)
  | _ => none
def intsU : U → Option (List Int)
  | .tup us => intsL us
  | _ => none
def rowsU : List U → Option (List (List Int))
  | [] => some []
  | u :: r => match intsU u, rowsU r with
    | some ns, some L => some (ns :: L)
    | _, _ => none
def tupI (ns : List Int) : U := .tup (ns.map .int)
def rowLen (L : List (List Int)) : Nat := match L with
  | [] => 1
  | ns :: _ => ns.length
def RowsOk (d : Nat) (L : List (List Int)) : Prop := 1 ≤ d ∧ L.length < 64 ∧ ∀ ns ∈ L, ns.length = d ∧ TS.Bd B0 ns
instance (d : Nat) (L : List (List Int)) : Decidable (RowsOk d L) := by unfold RowsOk TS.Bd; infer_instance
def leC (a b : List Int) : Bool := decide (TS.code B0 a ≤ TS.code B0 b)
def sortI (L : List (List Int)) : List (List Int) := L.mergeSort leC
theorem code_inj : ∀ {a b : List Int}, a.length = b.length → TS.Bd B0 a → TS.Bd B0 b → TS.code B0 a = TS.code B0 b → a = b
  | [], [], _, _, _, _ => rfl
  | x :: a, y :: b, hl, ha, hb, e => by
    have hl' : a.length = b.length := by simpa using hl
    rcases Int.lt_trichotomy x y with z | z | z
    · have := TS.code_lt hl' ha.tail hb.tail z; omega
    · subst z
      have : TS.code B0 a = TS.code B0 b := by
        have h1 := (TS.code_same (B := B0) (d := x) hl')
        have h2 := (TS.code_same (B := B0) (d := x) hl'.symm)
        have n1 : ¬ TS.code B0 a < TS.code B0 b := fun z => by have := h1.mpr z; omega
        have n2 : ¬ TS.code B0 b < TS.code B0 a := fun z => by have := h2.mpr z; omega
        omega
      rw [code_inj hl' ha.tail hb.tail this]
    · have := TS.code_lt hl'.symm hb.tail ha.tail z; omega
  | [], _ :: _, hl, _, _, _ => by cases hl
  | _ :: _, [], hl, _, _, _ => by cases hl
theorem sortI_pw (L : List (List Int)) : (sortI L).Pairwise fun a b => leC a b = true := List.pairwise_mergeSort (fun a b c h1 h2 => by unfold leC at *; simp only [decide_eq_true_eq] at *; omega) (fun a b => by unfold leC; simp only [Bool.or_eq_true, decide_eq_true_eq]; omega) L
theorem sortI_perm (L : List (List Int)) : (sortI L).Perm L := List.mergeSort_perm L leC
theorem sort_one {d : Nat} {L L' : List (List Int)} (ok : ∀ ns ∈ L, ns.length = d ∧ TS.Bd B0 ns) (p : L'.Perm L) (s : L'.Pairwise fun a b => TS.code B0 a ≤ TS.code B0 b) : L' = sortI L := by
  refine List.Perm.eq_of_pairwise (le := fun a b => leC a b = true) (fun a b ha hb h1 h2 => ?_) (s.imp fun h => by unfold leC; exact decide_eq_true h) (sortI_pw L) (p.trans (sortI_perm L).symm)
  have k1 := ok a (p.mem_iff.mp ha)
  have k2 := ok b ((sortI_perm L).mem_iff.mp hb)
  unfold leC at h1 h2
  simp only [decide_eq_true_eq] at h1 h2
  exact code_inj (k1.1.trans k2.1.symm) k1.2 k2.2 (by omega)
def TupH (H : Hp) (x : V) (ns : List Int) : Prop := ∃ t, x = .ref t ∧ H t = some (.tup (ns.map V.int))
def AllT (H : Hp) : List V → List (List Int) → Prop
  | [], [] => True
  | x :: xs, ns :: L => TupH H x ns ∧ AllT H xs L
  | _, _ => False
section
variable {G : Cxt} {rs : List Addr} {B : Bn} {H H' : Hp}
theorem ints_im : ∀ {us : List U} {ns : List Int} {vs : List V}, intsL us = some ns → imAll G rs B us vs H → us = ns.map .int ∧ vs = ns.map V.int
  | [], ns, vs, e, h => by cases e; exact ⟨rfl, h⟩
  | .int i :: r, ns, _, e, ⟨v, w, ev, h1, h2⟩ => by
    cases q : intsL r with
    | none => rw [intsL, q] at e; cases e
    | some ms =>
      rw [intsL, q] at e; cases e
      obtain ⟨e1, e2⟩ := ints_im q h2
      rw [ev, e1, e2, show v = _ from h1]
      exact ⟨rfl, rfl⟩
theorem im_ints : ∀ {ns : List Int}, imAll G rs B (ns.map U.int) (ns.map V.int) H
  | [] => rfl
  | n :: ns => ⟨.int n, ns.map V.int, rfl, rfl, im_ints⟩
theorem rows_im : ∀ {us : List U} {L : List (List Int)} {vs : List V}, rowsU us = some L → imAll G rs B us vs H → us = L.map tupI ∧ AllT H vs L
  | [], L, vs, e, h => by cases e; cases (show vs = [] from h); exact ⟨rfl, trivial⟩
  | u :: r, L, _, e, ⟨v, w, ev, h1, h2⟩ => by
    cases q : rowsU r with
    | none => rw [rowsU, q] at e; split at e <;> simp_all
    | some M =>
      cases q2 : intsU u with
      | none => rw [rowsU, q, q2] at e; cases e
      | some ns =>
        rw [rowsU, q, q2] at e; cases e
        obtain ⟨e1, e2⟩ := rows_im q h2
        cases u with
        | tup us =>
          obtain ⟨a, xs, rfl, ha, hx⟩ := h1
          obtain ⟨e3, e4⟩ := ints_im q2 hx
          subst e4
          rw [ev, e1, e3]
          exact ⟨rfl, ⟨a, rfl, ha⟩, e2⟩
        | _ => cases q2
theorem allT_im : ∀ {vs : List V} {L : List (List Int)}, AllT H vs L → imAll G rs B (L.map tupI) vs H
  | [], [], _ => rfl
  | x :: xs, ns :: L, ⟨⟨t, e, h⟩, r⟩ => ⟨x, xs, rfl, ⟨t, _, e, h, im_ints⟩, allT_im r⟩
theorem allT_mem : ∀ {vs : List V} {L : List (List Int)} {x : V}, AllT H vs L → x ∈ vs → ∃ ns ∈ L, TupH H x ns
  | y :: xs, ns :: L, x, ⟨h, r⟩, m => by
    rcases List.mem_cons.mp m with e | e
    · exact ⟨ns, List.mem_cons_self, e ▸ h⟩
    · obtain ⟨ms, h1, h2⟩ := allT_mem r e
      exact ⟨ms, List.mem_cons_of_mem _ h1, h2⟩
theorem allT_perm {ys xs : List V} (p : ys.Perm xs) : ∀ {L : List (List Int)}, AllT H xs L → ∃ L', L'.Perm L ∧ AllT H ys L' := by
  induction p with
  | nil => intro L h; exact ⟨L, .refl _, h⟩
  | cons x _ ih =>
    intro L h
    cases L with
    | nil => exact h.elim
    | cons ns L => obtain ⟨L', p, q⟩ := ih h.2; exact ⟨ns :: L', p.cons _, h.1, q⟩
  | swap x y l =>
    intro L h
    match L, h with
    | a :: b :: L, ⟨h1, h2, h3⟩ => exact ⟨b :: a :: L, .swap _ _ _, h2, h1, h3⟩
  | trans _ _ ih1 ih2 =>
    intro L h
    obtain ⟨L1, p1, q1⟩ := ih2 h
    obtain ⟨L2, p2, q2⟩ := ih1 q1
    exact ⟨L2, p2.trans p1, q2⟩
theorem allT_pw {K : PySem.W.Frag} : ∀ {ys : List V} {L : List (List Int)}, AllT H ys L → ys.Pairwise (fun x y => ∀ n m, TupI K H x n → TupI K H y m → TS.code B0 n ≤ TS.code B0 m) → L.Pairwise fun a b => TS.code B0 a ≤ TS.code B0 b
  | [], [], _, _ => .nil
  | y :: ys, ns :: L, ⟨⟨t, e, h⟩, r⟩, p => by
    obtain ⟨p1, p2⟩ := List.pairwise_cons.mp p
    refine List.pairwise_cons.mpr ⟨fun ms m => ?_, allT_pw r p2⟩
    have key : ∀ {ys : List V} {L : List (List Int)}, AllT H ys L → ms ∈ L → ∃ z ∈ ys, TupH H z ms := by
      intro ys
      induction ys with
      | nil => intro L h m; cases L with
        | nil => cases m
        | cons _ _ => exact h.elim
      | cons z zs ih =>
        intro L h m
        cases L with
        | nil => cases m
        | cons _ _ =>
          rcases List.mem_cons.mp m with e | e
          · exact ⟨z, List.mem_cons_self, e ▸ h.1⟩
          · obtain ⟨z', m', q⟩ := ih h.2 e; exact ⟨z', List.mem_cons_of_mem _ m', q⟩
    obtain ⟨z, mz, t', e', h'⟩ := key r m
    exact p1 z mz ns ms ⟨t, e, EL.sqT_of h⟩ ⟨t', e', EL.sqT_of h'⟩
end
section
variable {F : Fr}
end
end UX

set_option Elab.async false
set_option linter.all false
set_option maxRecDepth 100000
set_option maxHeartbeats 4000000
set_option autoImplicit false
namespace UX
open PySem PySem.Spec PyProof.Rows L2
open EL (Ex RB BOk Bn TK)
abbrev Vls : Type := (PySem.W.Frag → Addr) × List (Str × He.Dv)
abbrev AlU : Type := He.AlT × Bool
def obsU (fa : List He.Fa) (fn : List He.DefD) (ts : List He.Tab) (vs : List Vls) (K : PySem.W.Frag) : AlU := (He.obsT fa fn ts K, vs.all fun q => He.valsB K (q.1 K) q.2)
def valU (fn : List He.DefD) (ts : List He.Tab) (w : World) : AlU := (He.valT fn ts w, true)
def SaysU (fa : List He.Fa) (fn : List He.DefD) (ts : List He.Tab) (vs : List Vls) (w : World) (K : PySem.W.Frag) : Prop := obsU fa fn ts vs K = valU fn ts w
section
variable {fa : List He.Fa} {fn : List He.DefD} {ts : List He.Tab} {vs : List Vls} {w : World} {K : PySem.W.Frag}
theorem SaysU.t (c : SaysU fa fn ts vs w K) : He.SaysT fa fn ts w K := congrArg (fun z : AlU => z.1) c
theorem SaysU.d (c : SaysU fa fn ts vs w K) : He.SaysD fa fn K := c.t.d
theorem SaysU.val (c : SaysU fa fn ts vs w K) (i : Nat) {q : Vls} (h : vs[i]? = some q) : He.valsB K (q.1 K) q.2 = true :=
  List.all_eq_true.mp (show (vs.all fun q => He.valsB K (q.1 K) q.2) = true from congrArg (fun z : AlU => z.2) c) q (List.mem_of_getElem? h)
theorem SaysU.keys (c : SaysU fa fn ts vs w K) (i : Nat) {t : He.Tab} (h : ts[i]? = some t) : He.dicW K (t.1 K) = some (He.keysIn w.params t.2) := by
  have e : ts.map (fun t => He.dicW K (t.1 K)) = ts.map fun t => some (He.keysIn w.params t.2) := congrArg (fun z : He.AlT => z.2) c.t
  have e2 : (ts.map fun t => He.dicW K (t.1 K))[i]? = (ts.map fun t => some (He.keysIn w.params t.2))[i]? := by rw [e]
  rw [List.getElem?_map, List.getElem?_map, h] at e2
  exact Option.some.inj e2
end
theorem keys_no {P : Params} {z : Str} : ∀ {l : List DictEntry} {ks : List Str}, l.map He.keyOf = He.keysIn P ks → z ∉ ks → l.find? (·.key.isStr z) = none ∧ l.any (·.refKey) = false
  | [], _, _, _ => ⟨rfl, rfl⟩
  | e :: r, [], h, _ => by cases h
  | e :: r, k :: ks, h, n => by
    have h1 : He.keyOf e :: r.map He.keyOf = some (k, PyData.keyHash P k) :: He.keysIn P ks := h
    injection h1 with h2 h3
    obtain ⟨i1, i2⟩ := keys_no h3 fun m => n (List.mem_cons_of_mem _ m)
    unfold He.keyOf at h2
    split at h2
    · rename_i x t q
      have h4 := Option.some.inj h2
      have hx : x = k := congrArg Prod.fst h4
      have nz : ¬ x = z := fun e => n (by rw [← hx, e]; exact List.mem_cons_self)
      constructor
      · rw [List.find?_cons, show e.key.isStr z = false by rw [q]; simp [Value.isStr, nz]]
        exact i1
      · rw [List.any_cons, show e.refKey = false by simp [DictEntry.refKey, q], Bool.false_or]
        exact i2
    · cases h2
theorem nsIn_no {K : PySem.W.Frag} {w : World} {a : Addr} {ks : List Str} {z : Str} (h : He.dicW K a = some (He.keysIn w.params ks)) (n : z ∉ ks) : PySem.W.nsIn K a z = some none := by
  obtain ⟨es, m, D⟩ := He.dicW_ok h
  unfold He.dicW at h
  rw [D.at_] at h
  simp only at h
  split at h
  · obtain ⟨h1, h2⟩ := keys_no (Option.some.inj h) n
    unfold PySem.W.nsIn
    rw [D.at_]
    simp only [h1, h2]
    rfl
  · cases h
def dvU : U → He.Dv
  | .top x => .glo x
  | .str s => .str s
  | .int i => .int i
  | _ => .non
theorem tabF {K : PySem.W.Frag} {w : World} {x : Str} {tab : List (Str × U)} (h1 : He.dicW K (He.ga K x) = some (He.keysIn w.params (tab.map (·.1)))) (h2 : He.valsB K (He.ga K x) (tab.map fun p => (p.1, dvU p.2)) = true) (h3 : ∀ p ∈ tab, (vTab (He.ga K) p.2).isSome = true) : TabF K (He.ga K) w (He.ga K x) tab := by
  refine ⟨He.dicW_ok h1, fun z u e => ?_, fun z e => nsIn_no h1 fun m => ?_⟩
  · have m := lookup_mem e
    obtain ⟨u0, q1, q2⟩ := He.valsB_ok h2 (List.mem_map_of_mem (f := fun p : Str × U => (p.1, dvU p.2)) m)
    have hs := h3 _ m
    cases u with
    | top y => exact ⟨u0, _, q1, rfl, q2⟩
    | str y => exact ⟨u0, _, q1, rfl, q2⟩
    | int y => exact ⟨u0, _, q1, rfl, q2⟩
    | _ => cases hs
  · obtain ⟨p, mp, rfl⟩ := List.mem_map.mp m
    have key : ∀ {l : List (Str × U)} {p : Str × U}, p ∈ l → l.lookup p.1 ≠ none := by
      intro l
      induction l with
      | nil => intro p m; cases m
      | cons q l ih =>
        intro p m
        rw [List.lookup_cons]
        split
        · exact fun z => nomatch z
        · rename_i hne
          rcases List.mem_cons.mp m with e | e
          · rw [e] at hne; simp at hne
          · exact ih e
    exact key mp e
theorem allN {α : Type} {P : α → Prop} : ∀ c ∈ ([] : List α), P c := fun _ m => nomatch m
theorem allC {α : Type} {P : α → Prop} {a : α} {l : List α} (h : P a) (k : ∀ c ∈ l, P c) : ∀ c ∈ a :: l, P c := fun c m => (List.mem_cons.mp m).elim (fun e => e ▸ h) (k c)
theorem sp_law {K : PySem.W.Frag} {at_ : Str → Addr} {f : U → M U} (hf : ∀ ns : List Int, ns.length ≤ 63 → ∃ st', f (.frl (ns.map .int)) [] = some (.ok (.bl true), st')) {H : Hp} {a : Addr} {ns : List Int} (hl : ns.length ≤ 63) (hS : SqL K H a (ns.map V.int)) :
    spM ⟨K, at_⟩ (L1 f) [.ref a] H (fun v _ => v = .bl true) fun _ _ _ => False := by
  obtain ⟨st', e⟩ := hf ns hl
  exact ⟨fun _ => False, [], [], [.frl (ns.map .int)], .bl true, st', fun a b => (by rcases b with b | b | b; exact b.elim; cases b; cases b), List.nodup_nil, (fun _ _ z => z), trivial, ⟨.ref a, [], rfl, ⟨a, ns.map V.int, rfl, FrL.of (fun b => by rcases b with b | b | b; exact b; cases b; cases b) hS, im_ints⟩, rfl⟩, e, fun as' v H' r => r.im⟩
end UX

set_option Elab.async false
set_option linter.all false
set_option maxRecDepth 100000
set_option maxHeartbeats 4000000
set_option autoImplicit false
namespace UY
open PySem PySem.Spec PyProof.Rows L2
open UX (getElem?_lt)
section
theorem en_new {v : Value} {ob : Obj} {G : Heap → Prop} (B : Begins v ob G) :
    Meets (Builtin.«enumerate.__new__» ⟨[.type "enumerate", v], []⟩) (fun _ R s => G s.heap ∧
      R (.ok (.ret (.ref (s.heap.push ob).objs.size))) { s with heap := (s.heap.push ob).push { cls := .type "enumerate", data := .fields #[.none, .bool false, .ref s.heap.objs.size, rawInt 0, .none, .none] } }) :=
  .of_wp fun prog w A R s h => by
    obtain ⟨hp, g, d, tk, os⟩ := s
    obtain ⟨g1, h⟩ := h
    have hsb := sub_enumerate
    have it1 : ∀ {A' : Around} {E : Value → Shared → Prop} {Q : Value → Shared → Prop}, Q (.ref hp.objs.size) ⟨hp.push ob, g, d, tk, os⟩ → wpAny (model prog w) A' (pyIter v) Q E ⟨hp, g, d, tk, os⟩ :=
      fun z => B.iter prog w _ _ ⟨hp, g, d, tk, os⟩ _ g1 z
    wp_walk using it1
    refine wpAny_stack_any fun sk => wpAny_pure ?_
    split
    · rename_i c _ _ _ _ _
      cases (c == Value.type "enumerate") <;> (wp_walk using it1; exact ⟨_, rfl, h⟩)
    · wp_walk using it1
      exact ⟨_, rfl, h⟩
variable {prog : Program} {w : World} {A : Around} {E : Value → Shared → Prop} {s : Shared}
theorem en_call {v : Value} {ob : Obj} {G : Heap → Prop} {Q : Value → Shared → Prop} (B : Begins v ob G) (g1 : G s.heap)
    (k : ∀ hp, IsEnum hp (s.heap.objs.size + 1) s.heap.objs.size 0 .none → hp.get? s.heap.objs.size = some ob → hp.objs.size = s.heap.objs.size + 2 → (∀ b u, s.heap.get? b = some u → hp.get? b = some u) → Q (.ref (s.heap.objs.size + 1)) { s with heap := hp }) :
    wpAny (model prog w) A (call (.type "enumerate") [v]) Q E s := by
  have sz : (s.heap.push ob).objs.size = s.heap.objs.size + 1 := Heap.size_push ..
  refine callType_new F.called_enumerate (by decide) (F.typeCall_enumerate_1 _) (F.newCall_enumerate_1 _) (fun x => F.args_object_init_2 x _) F.entry_enumerate_new (en_new B) ⟨g1, ?_⟩
  have z := Heap.get?_push_size (s.heap.push ob) (o := { cls := .type "enumerate", data := .fields #[.none, .bool false, .ref s.heap.objs.size, rawInt 0, .none, .none] }) rfl
  rw [sz] at z
  show _ ∧ _
  rw [sz]
  exact ⟨⟨_, z, rfl⟩, k _ z (Heap.get?_push_of_some _ (Heap.get?_push_size _ B.free)) (by rw [Heap.size_push, sz]) fun b u q => Heap.get?_push_of_some _ (Heap.get?_push_of_some _ q)⟩
end
def ItE (K : PySem.W.Frag) (a : Addr) : It := ⟨fun i H => ∃ (xs : List V) (x : V), SqT K H a xs ∧ xs[i]? = some x, fun i H v H' => ∃ T x, v = .ref T ∧ H T = none ∧ H' = upd H T (.tup [.int (i : Nat), x]) ∧ (∀ xs, SqT K H a xs → xs[i]? = some x), fun i H => ∃ xs : List V, SqT K H a xs ∧ xs.length = i⟩
theorem turn_en {P : Program} {w : World} {K : PySem.W.Frag} {elts : List Expr} {kk : Nat} {tpos : Pos} {a e it : Addr} (n1 : e ≠ it) (n2 : e ≠ a) (n3 : a ≠ it) :
    Turn P w K (.Tuple elts kk tpos) (ItE K a) [e, it] e (fun i h => (∃ old, IsEnum h e it ((i : Nat) : Int) old) ∧ h.IsTupleIter it a i) where
  mem := by simp
  obj := fun i h st b hb => by
    obtain ⟨⟨old, he⟩, ⟨o, ho, hc, hd⟩⟩ := st
    rcases (show b = e ∨ b = it by simpa using hb) with rfl | rfl
    · exact ⟨_, he, fun v q => nomatch q⟩
    · exact ⟨o, ho, fun v q => by rw [hd] at q; cases q⟩
  keep := fun i h h' st k => by
    obtain ⟨⟨old, he⟩, hi⟩ := st
    exact ⟨⟨old, k e (by simp) _ he⟩, hi.at fun o q => k it (by simp) o q⟩
  item := by
    intro X hP hw hK hc i pins s σ H E I hf st hg
    subst hP hw hK
    obtain ⟨⟨old, he⟩, hi⟩ := st
    obtain ⟨xs, x, hq, hx⟩ := hg
    obtain ⟨its, rv, p, hz⟩ := I.tuple hq
    obtain ⟨u, hu, ru⟩ := rv.get hx
    have le : e < s.heap.objs.size := Heap.lt_size he
    have li : it < s.heap.objs.size := by obtain ⟨_, q, _⟩ := hi; exact Heap.lt_size q
    have hlt : i < its.toArray.size := by
      have := getElem?_lt hu
      simpa using this
    refine wpAny_pyNext_enum_itemC (Draws.tuple (A := X.A.in1) (show X.A.in1.handled = none from I.ok.hd hc) it a n3 its.toArray) he (i := i) ⟨hi, p⟩ hlt n1 (by simp [n1, n2]) fun y hp tk hy ho hs hT hsz hk => ?_
    have ey : y = u := by
      have h1 : its[i]? = some y := by simpa using hy
      rw [hu] at h1
      exact (Option.some.inj h1).symm
    subst ey
    refine ⟨_, rfl, wpAny_letOwnedTupleGo_enum (s := { s with heap := hp, toks := tk + 1 }) ho fun hp' he' sb => ?_⟩
    have hT2 : hp'.get? s.heap.objs.size = some { cls := .type "tuple", data := .seq #[.int i tk, y] } := (sb.2 _ (Nat.ne_of_gt le)).trans hT
    have new : ObjOk X.prog X.w (upd H s.heap.objs.size (.tup [.int (i : Nat), x])) hp' s.heap.objs.size (.tup [.int (i : Nat), x]) := by
      refine ⟨?_, [.int i tk, y], .cons ⟨_, rfl⟩ (.cons ru .nil), ⟨_, hT2, rfl, _, rfl⟩⟩
      show 2 ≤ sizeLine
      decide
    have J := I.turnedNew (t' := tk + 1) (ch := [e, it]) (h' := hp') (fun b ob hb q => by
      have n := (show b ≠ e ∧ b ≠ it by simpa using hb)
      exact (sb.2 b n.1).trans (hk b ob n.1 n.2 q)) hf (Nat.le_refl _) new
    refine ⟨.ref s.heap.objs.size, _, J, rfl, ⟨_, x, rfl, I.hok.fresh (Nat.le_refl _), rfl, fun ys hy => by rw [I.tuple_inj hy hq]; exact hx⟩, ⟨⟨y, ?_⟩, hs.1.at fun o q => (sb.2 it n1.symm).trans q⟩, fun b hb => ?_⟩
    · rw [show ((i + 1 : Nat) : Int) = (i : Int) + 1 by omega]; exact he'
    · have lb : b < s.heap.objs.size := by rcases (show b = e ∨ b = it by simpa using hb) with rfl | rfl <;> assumption
      rw [upd_ne (Nat.ne_of_lt lb)]
      exact (hf b hb).1
  done := by
    intro X hP hw hK hc i pins s σ H E I hf st hg
    subst hP hw hK
    obtain ⟨⟨old, he⟩, hi⟩ := st
    obtain ⟨xs, hq, hx⟩ := hg
    obtain ⟨its, rv, p, hz⟩ := I.tuple hq
    obtain ⟨f0, f1, f2, f3, f4, f5⟩ := hf it (by simp)
    have hl : its.toArray.size = i := by
      have := rv.length
      simp
      omega
    refine wpAny_pyNext_enum_endD (Draws.tuple (A := X.A.in1) (show X.A.in1.handled = none from I.ok.hd hc) it a n3 its.toArray) he ⟨by rw [hl]; exact hi, p⟩ fun hp eb => ⟨rfl, I.turned (t' := s.toks) (fun b o hb q => eb b o hb q) f0 f1 f3 f4 f5⟩
  self := fun A i s Q E st h => let ⟨⟨_, he⟩, _⟩ := st; wpAny_pyIter_enum he h
def iEnT (K : PySem.W.Frag) (ta : TA) : TI := fun σ H R => ta σ H fun vs H1 => ∃ a xs, vs = [.ref a] ∧ SqT K H1 a xs ∧ R (ItE K a) H1
theorem pi_enT {X : Cx} {x : Expr} {ta : TA} {p pos tpos : Pos} {elts : List Expr} {kk : Nat} (hg : Gl X "enumerate") (hm : X.mg "enumerate" = none) (ha : PA X [x] ta) (hs : starEach [x] X.env = [(false, eval x X.env)] := by rfl) :
    PI X (.Tuple elts kk tpos) (.Call (.Name "enumerate" p) [x] [] pos) (iEnT X.K ta) := ⟨fun pins s σ H R I h => by
  refine Call_ (ld_blt I hg hm boot_enumerate (PyProof.Rows.callWith_type1 (thn (ha.run pos pins s σ H _ I h) fun us s1 ⟨vs, H1, I1, r1, a, xs, ex, hq, q⟩ => ?_) hs rfl))
  subst ex
  cases r1 with
  | cons r rr =>
    cases rr
    cases r
    obtain ⟨its, rv, p', hz⟩ := I1.tuple hq
    have la : a < s1.heap.objs.size := by obtain ⟨_, z, _⟩ := p'; exact Heap.lt_size z
    refine en_call (begins_tuple a its.toArray) p' fun hp he hi hsz hk => wpAny_pyIter_enum he ?_
    have I2 : Inv X pins σ H1 { s1 with heap := hp } := I1.kept (t' := s1.toks) hk
    refine ⟨s1.heap.objs.size + 1, [s1.heap.objs.size + 1, s1.heap.objs.size], _, _, H1, rfl, I2, turn_en (a := a) (Nat.succ_ne_self _) (Nat.ne_of_gt (Nat.lt_succ_of_lt la)) (Nat.ne_of_lt la), ⟨⟨.none, he⟩, ⟨_, hi, rfl, rfl⟩⟩, fun b hb => ?_, q⟩
    have hle : s1.heap.objs.size ≤ b := by rcases (show b = s1.heap.objs.size + 1 ∨ b = s1.heap.objs.size by simpa using hb) with rfl | rfl <;> omega
    exact I1.fpOk hle (I1.hok.fresh hle)⟩
end UY

set_option Elab.async false
set_option linter.all false
set_option maxRecDepth 100000
set_option maxHeartbeats 4000000
set_option autoImplicit false
namespace UY
open PySem PySem.Spec PyProof.Rows L2
def AddI (w : World) (D : Addr) (y : V) (H : Hp) (Nx : Hp → Prop) : Prop := ∃ (k : Int) (S : Int → Bool) (n : Nat), y = .int k ∧ H D = some (SetO w D S n) ∧ n + 1 < scanBound ∧ Nx (upd H D (SetO w D (fun j => S j || decide (j = k)) (if S k = true then n else n + 1)))
def tSci (w : World) (wi : TI) (g : TG) (tt : TT) (te : TE) (vs : List Nat) : TE := fun σ H Q => wi σ H fun J H1 => ∀ D, H1 D = none → ∃ W : Nat → Nat → Hp → Prop, (∃ m, W 0 m (upd H1 D (SetO w D (fun _ => false) 0))) ∧
  ∀ i m Hc, W i m Hc → (J.stop i Hc ∧ Q (.ref D) Hc) ∨ (J.go i Hc ∧ ∃ Nx : Hp → Prop, (∀ H', Nx H' → ∃ m', m' < m ∧ W (i + 1) m' H') ∧
    ∀ x H', J.yld i Hc x H' → g x (wipe σ vs) H' fun σ2 H2 => wipe σ2 vs = wipe σ vs ∧ tt σ2 H2 fun b H3 => if b = true then te σ2 H3 fun y H4 => AddI w D y H4 Nx else Nx H3)
section
variable {X : Cx}
theorem pe_sci {elt tg iter : Expr} {ifs : List Expr} {scope : Scope} {own : List (PySem.Str × Nat)} {pos : Pos} {wi : TI} {g : TG} {tt : TT} {te : TE} (hc : X.calm = true) (hN : X.N.Nodup) (hi : PI X tg iter wi)
    (ok : BlkOk X.N X.env.scope scope own) (hg : ∀ (z : Shared) (Hz : Hp) (C : Addr) (cl : List (PySem.Str × Addr)) (fp : List Addr), PG (X.blk z Hz scope (compEnvC scope cl C X.env) fp) tg g)
    (ht : ∀ (z : Shared) (Hz : Hp) (C : Addr) (cl : List (PySem.Str × Addr)) (fp : List Addr), PTs (X.blk z Hz scope (compEnvC scope cl C X.env) fp) ifs tt)
    (he : ∀ (z : Shared) (Hz : Hp) (C : Addr) (cl : List (PySem.Str × Addr)) (fp : List Addr), PE (X.blk z Hz scope (compEnvC scope cl C X.env) fp) elt te)
    (hs : ∀ x, foldedSetIterable iter X.env x = pure x := by intro _; rfl) : PE X (.SetComp elt [⟨tg, iter, ifs, 0⟩] scope pos) (tSci X.w wi g tt te (own.map (·.2))) := ⟨fun pins s σ H Q I h => by
  rw [PpSet.eval_SetComp]
  have fr : ∀ y ∈ scope.names, y.2 = .free → ∃ c, X.env.cells.lookup y.1 = some c := fun y m e => (ok.free y m e).elim (fun k => I.ok.has _ (.inl k)) fun k => I.ok.has _ (.inr k)
  refine wpAny_comprehension_free rfl hs (closure_ok fr) ok.kind (fun y m e => by rw [ok.uniq y m, e]) (thn (hi.run pins s σ H _ I h) fun xv s1 hx => thn hx fun itv s2 ⟨it, fp, tn, J, H2, ei, I2, T, t2, f2, q⟩ => ?_)
  subst ei
  refine PpSet.newSet_ok (newEnv_comp ?_)
  generalize eD : s2.heap.objs.size = D
  have nD : H2 D = none := I2.hok.fresh (Nat.le_of_eq eD)
  obtain ⟨W, ⟨m0, w0⟩, turn⟩ := q D nD
  -- the new set stands
  let nob : Obj := { cls := .type "set", dict := none, data := .set #[] 0 (.fresh 0 0 (!X.w.params.followText "set-order")) }
  generalize e3 : ({ s2 with heap := s2.heap.push nob } : Shared) = s3
  have p3 : s3.heap = s2.heap.push nob := by rw [← e3]
  have I3 : Inv X pins σ (upd H2 D (SetO X.w D (fun _ => false) 0)) s3 := by
    rw [← e3]
    exact I2.laid (t' := s2.toks) (fun b o z => Heap.get?_push_of_some _ z) (Nat.le_of_eq eD) (eD ▸ setO_new (setR_fresh X.w))
  have lt2 : ∀ b ∈ fp, b < s2.heap.objs.size := fun b m => by obtain ⟨o, z, _⟩ := T.obj _ _ t2 b m; exact Heap.lt_size z
  have f3 : ∀ b ∈ fp, FpOk X pins (upd H2 D (SetO X.w D (fun _ => false) 0)) b ∧ b < s3.heap.objs.size := fun b m =>
    ⟨⟨by rw [upd_ne (by rw [← eD]; exact Nat.ne_of_lt (lt2 b m))]; exact (f2 b m).1, (f2 b m).2⟩, by rw [p3, Heap.size_push]; exact Nat.lt_succ_of_lt (lt2 b m)⟩
  have t3 : tn 0 s3.heap := T.keep _ _ _ t2 fun b _ o z => by rw [p3]; exact Heap.get?_push_of_some _ z
  have I4 := block_start I3 ok hN f3
  show codeAny _ _ (.compStart (.SetComp elt [⟨tg, iter, ifs, 0⟩] scope pos) 0 (.ref it) (.ref D) (compEnvC scope (cellsFrom (s3.heap.objs.size + 1) scope.names (cloFrom X.env.cells scope.names [])) s3.heap.objs.size X.env)) (compPost (model X.prog X.w) X.A X.xe _ _ (.ref D) s3.heap.objs.size) { s3 with heap := pushCells (s3.heap.push { cls := .type "dict", data := .dict #[] }) scope.names }
  generalize eC : cellsFrom (s3.heap.objs.size + 1) scope.names (cloFrom X.env.cells scope.names []) = cl at I4 ⊢
  have G := hg s3 (upd H2 D (SetO X.w D (fun _ => false) 0)) s3.heap.objs.size cl fp
  have TT' := ht s3 (upd H2 D (SetO X.w D (fun _ => false) 0)) s3.heap.objs.size cl fp
  have EE := he s3 (upd H2 D (SetO X.w D (fun _ => false) 0)) s3.heap.objs.size cl fp
  generalize ece : compEnvC scope cl s3.heap.objs.size X.env = ce at I4 G TT' EE ⊢
  have cl0 : ce.locals = s3.heap.objs.size := by subst ece; rfl
  have n3 : ∀ b ∈ fp, (upd H2 D (SetO X.w D (fun _ => false) 0)) b = none := fun b m => (f3 b m).1.1
  generalize eH : upd H2 D (SetO X.w D (fun _ => false) 0) = H3 at I3 I4 G TT' EE w0 n3 f3
  generalize e4 : ({ s3 with heap := pushCells (s3.heap.push { cls := .type "dict", data := .dict #[] }) scope.names } : Shared) = s4 at I4 ⊢
  have t4 : tn 0 s4.heap := T.keep _ _ _ t3 fun b _ o z => by rw [← e4]; exact pushCells_keeps _ _ _ _ (Heap.get?_push_of_some _ z)
  have fpo : ∀ {σ' : L2.St} {H' : Hp} {s' : Shared}, Inv (X.blk s3 H3 scope ce fp) [] σ' H' s' → (∀ b ∈ fp, H' b = none) → ∀ b ∈ fp, FpOk (X.blk s3 H3 scope ce fp) [] H' b := fun {_ _ _} J' n b m =>
    ⟨n b m, (J'.ok.exf b m).1, J'.ok.exfs b m, .inl m, fun x c z => (J'.ok.exf b m).2 x c z, fun p hp => absurd (show p ∈ ([] : List (Addr × Obj)) ++ [] from hp) (by simp)⟩
  have body : codeAny (model X.prog X.w) X.A (.compLoop (.SetComp elt [⟨tg, iter, ifs, 0⟩] scope pos) 0 (.ref it) (.ref D) ce) (compPost (model X.prog X.w) X.A X.xe none (EP X pins σ Q) (.ref D) s3.heap.objs.size) s4 := by
    refine PpSet.compLoopS_any (fun n s' => ∃ i Hc, Inv (X.blk s3 H3 scope ce fp) [] (wipe σ (own.map (·.2))) Hc s' ∧ tn i s'.heap ∧ (∀ b ∈ fp, Hc b = none) ∧ W i n Hc) ?_ m0 ⟨0, H3, I4, t4, n3, w0⟩
    rintro n s5 ⟨i, H5, I5, t5, n5, w5⟩
    rcases turn i n H5 w5 with ⟨stop, qq⟩ | ⟨go, Nx, hNx, step⟩
    · -- all are gone through
      refine thnF (T.done (X.blk s3 H3 scope ce fp) rfl rfl rfl hc i [] s5 _ H5 (fun _ _ => False) I5 (fpo I5 n5) t5 stop) fun r s6 ⟨er, I6⟩ => ?_
      subst er
      have I7 : Inv X pins σ H5 s6 := I3.call' (ch := fp) I6.os I6.base I6.hok I6.bare fun b m => ⟨(f3 b m).1.2.2.2.1, (f3 b m).1.2.1, (f3 b m).1.2.2.2.2.1, (f3 b m).1.2.2.2.2.2⟩
      have nC : H5 s3.heap.objs.size = none := cl0 ▸ (show H5 ce.locals = none from I6.free)
      obtain ⟨mm, hn, _⟩ := I6.loc
      obtain ⟨g0, g1, g2, g3, g4, g5⟩ := I3.fpOk (Nat.le_refl _) nC
      exact ⟨mm, cl0 ▸ (show s6.heap.Ns ce.locals mm from hn), fun h7 sb => ⟨.ref D, H5, I7.turned (t' := s6.toks) (fun b o hb z => (sb.2 b hb).trans z) g0 g1 g3 g4 g5, rfl, qq⟩⟩
    · -- one more
      refine thnF (T.item (X.blk s3 H3 scope ce fp) rfl rfl rfl hc i [] s5 _ H5 (fun _ _ => False) I5 (fpo I5 n5) t5 go) fun r s6 ⟨u, er, h6⟩ => ?_
      subst er
      refine thnF h6 fun _ s7 ⟨x, H7, I7, r7, y7, t7, n7⟩ => ?_
      refine thnF (G.run _ s7 _ H7 x u _ (I7.pinned (fpo I7 n7) (T.obj _ _ t7)) r7 (step x H7 y7)) fun _ s8 ⟨σ8, H8, I8, w8, q8⟩ => thnF (TT'.run _ s8 σ8 H8 _ I8 q8) fun b s9 ⟨H9, I9, q9⟩ => ?_
      have fin : ∀ {s' : Shared} {H' : Hp}, Inv (X.blk s3 H3 scope ce fp) ([] ++ pinsAt fp s7.heap) σ8 H' s' → Nx H' → ∃ m, m < n ∧ ∃ i Hc, Inv (X.blk s3 H3 scope ce fp) [] (wipe σ (own.map (·.2))) Hc s' ∧ tn i s'.heap ∧ (∀ b ∈ fp, Hc b = none) ∧ W i m Hc := fun {s' H'} J' nx => by
        obtain ⟨m', lm, w'⟩ := hNx H' nx
        have pin : ∀ b ∈ fp, ∀ o, s7.heap.get? b = some o → s'.heap.get? b = some o ∧ H' b = none := fun b m o z =>
          have y := J'.pin (b, o) (List.mem_append_right _ (List.mem_append_right _ (mem_pinsAt m z)))
          ⟨y.1, y.2.1⟩
        have ll : (wipe σ (own.map (·.2))).length = σ8.length := by rw [← w8, wipe_length]
        exact ⟨m', lm, i + 1, H', (J'.unpinned (pins := [])).weak ll (fun j v z => (wipe_some (w8 ▸ z)).1), T.keep _ _ _ t7 fun b m o z => (pin b m o z).1, fun b m => by
          obtain ⟨o, z, _⟩ := T.obj _ _ t7 b m
          exact (pin b m o z).2, w'⟩
      cases b with
      | false =>
        simp only [Bool.false_eq_true, if_false] at q9 ⊢
        exact fin I9 q9
      | true =>
        simp only [if_true] at q9 ⊢
        refine thnF (EE.run _ s9 σ8 H9 _ I9 q9) fun z s10 ⟨yv, H10, I10, r10, k, S, n0, ey, hD, room, nx⟩ => ?_
        subst ey
        refine thnF (mt_sadd (X := X.blk s3 H3 scope ce fp) _ s10 σ8 H10 (.ref D) [.int k] (.ref D) [z] (fun _ H' => Nx H') I10 rfl (.cons r10 .nil) ⟨D, k, S, n0, rfl, rfl, hD, room, nx⟩) fun _ s11 ⟨_, H11, I11, _, nx'⟩ => fin I11 nx'
  exact PpSet.codeAny_compStart_set body (T.self X.A 0 _ _ _ t4 body)⟩
end
end UY

set_option Elab.async false
set_option linter.all false
set_option maxRecDepth 100000
set_option maxHeartbeats 4000000
set_option autoImplicit false
namespace UX
open PySem PySem.Spec PyProof.Rows L2 UY
open EL (Ex RB BOk Bn TK)
def ddI (ns : List Int) : List Int := ns.foldl (fun acc k => if k ∈ acc then acc else acc ++ [k]) []
theorem ddI_snoc (ns : List Int) (k : Int) : ddI (ns ++ [k]) = if k ∈ ddI ns then ddI ns else ddI ns ++ [k] := by unfold ddI; rw [List.foldl_append]; rfl
theorem snoc_ind {α : Type} {P : List α → Prop} (h0 : P []) (h1 : ∀ l x, P l → P (l ++ [x])) : ∀ l, P l := fun l => by
  have : ∀ n (l : List α), l.length = n → P l := by
    intro n
    induction n with
    | zero => intro l e; rw [List.length_eq_zero_iff.mp e]; exact h0
    | succ n ih =>
      intro l e
      have hne : l ≠ [] := fun z => by rw [z] at e; cases e
      rw [← List.dropLast_concat_getLast hne]
      exact h1 _ _ (ih _ (by rw [List.length_dropLast, e]; rfl))
  exact this l.length l rfl
theorem mem_ddI {x : Int} : ∀ ns : List Int, x ∈ ddI ns ↔ x ∈ ns := by
  refine snoc_ind (by simp [ddI]) fun l k ih => ?_
  rw [ddI_snoc]
  split
  · rename_i h
    rw [ih, List.mem_append, List.mem_singleton]
    exact ⟨.inl, fun z => z.elim id fun e => e ▸ ih.mp (e ▸ h)⟩
  · rw [List.mem_append, List.mem_append, ih]
theorem nodup_ddI : ∀ ns : List Int, (ddI ns).Nodup := by
  refine snoc_ind (by simp [ddI]) fun l k ih => ?_
  rw [ddI_snoc]
  split
  · exact ih
  · rename_i h
    exact List.nodup_append.mpr ⟨ih, List.pairwise_singleton _ _, fun a ha b hb e => h (by rw [List.mem_singleton] at hb; rw [← hb, ← e]; exact ha)⟩
theorem ddI_mono (a : List Int) : ∀ b : List Int, (ddI a).length ≤ (ddI (a ++ b)).length := by
  refine snoc_ind (by simp) fun l k ih => ?_
  rw [← List.append_assoc, ddI_snoc]
  split
  · exact ih
  · rw [List.length_append]; omega
def sortD (ns : List Int) : List Int := (ddI ns).mergeSort fun a b => decide (a ≤ b)
theorem mem_sortD {x : Int} {ns : List Int} : x ∈ sortD ns ↔ x ∈ ns := by unfold sortD; rw [List.mem_mergeSort, mem_ddI]
theorem sortD_pw (ns : List Int) : (sortD ns).Pairwise (· < ·) := by
  have h1 : (sortD ns).Pairwise fun a b => decide (a ≤ b) = true := List.pairwise_mergeSort (fun a b c h1 h2 => by simp only [decide_eq_true_eq] at *; omega) (fun a b => by simp only [Bool.or_eq_true, decide_eq_true_eq]; omega) _
  have h2 : (sortD ns).Nodup := ((ddI ns).mergeSort_perm _).symm.nodup (nodup_ddI ns)
  exact (h1.and h2).imp fun ⟨a, b⟩ => by simp only [decide_eq_true_eq] at a; omega
theorem rise_one : ∀ {a b : List Int}, a.Pairwise (· < ·) → b.Pairwise (· < ·) → (∀ x, x ∈ a ↔ x ∈ b) → a = b
  | [], [], _, _, _ => rfl
  | [], y :: b, _, _, h => absurd ((h y).mpr List.mem_cons_self) (fun z => nomatch z)
  | x :: a, [], _, _, h => absurd ((h x).mp List.mem_cons_self) (fun z => nomatch z)
  | x :: a, y :: b, pa, pb, h => by
    have pa' := List.pairwise_cons.mp pa
    have pb' := List.pairwise_cons.mp pb
    have e : x = y := by
      rcases List.mem_cons.mp ((h x).mp List.mem_cons_self) with e | m
      · exact e
      · rcases List.mem_cons.mp ((h y).mpr List.mem_cons_self) with e' | m'
        · exact e'.symm
        · have := pb'.1 x m; have := pa'.1 y m'; omega
    subst e
    rw [rise_one pa'.2 pb'.2 fun z => ?_]
    have := h z
    simp only [List.mem_cons] at this
    constructor
    · intro m
      rcases this.mp (.inr m) with e | e
      · have := pa'.1 z m; omega
      · exact e
    · intro m
      rcases this.mpr (.inr m) with e | e
      · have := pb'.1 z m; omega
      · exact e
theorem map_int_inj1 : ∀ {a b : List Int}, a.map U.int = b.map U.int → a = b
  | [], [], _ => rfl
  | [], _ :: _, h => by simp at h
  | _ :: _, [], h => by simp at h
  | x :: a, y :: b, h => by
    rw [List.map_cons, List.map_cons, List.cons.injEq, U.int.injEq] at h
    rw [h.1, map_int_inj1 h.2]
theorem imAll_ints {G : Cxt} {rs : List Addr} {B : Bn} {H : Hp} : ∀ ns : List Int, imAll G rs B (ns.map .int) (ns.map V.int) H
  | [] => rfl
  | n :: ns => ⟨.int n, ns.map V.int, rfl, rfl, imAll_ints ns⟩
def sortDU : U → Option U
  | .lst us => match intsL us with
    | some ns => if (ddI ns).length < 64 then some (.lst ((sortD ns).map .int)) else none
    | none => none
  | _ => none
theorem intsL_eq : ∀ {us : List U} {ns : List Int}, intsL us = some ns → us = ns.map .int
  | [], _, e => by cases e; rfl
  | u :: us, ns, e => by
    cases u <;> simp [intsL] at e
    obtain ⟨r, er, rfl⟩ := e
    rw [intsL_eq er]; rfl
theorem intsL_map : ∀ ns : List Int, intsL (ns.map .int) = some ns
  | [] => rfl
  | n :: ns => by rw [List.map_cons, intsL, intsL_map ns]; rfl
theorem tail_ints : ∀ {a ns : List Int} {b : List U}, a.map U.int ++ b = ns.map U.int → b = ((intsL b).getD []).map U.int
  | [], ns, b, h => by rw [show b = ns.map U.int from h, intsL_map]; rfl
  | x :: a, [], b, h => by simp at h
  | x :: a, n :: ns, b, h => tail_ints (a := a) (ns := ns) (by simp at h; simpa using h.2)
section
variable {F : Fr} {os : Os} {as as' : SA} {st st' : Sto} {γ : List (U × V)} {H H' : Hp} {σ : L2.St} {δ : Dl}
structure SS (w : World) (F : Fr) (os : Os) (k0 : Nat) (D : Addr) (as : SA) (st : Sto) (γ : List (U × V)) (H : Hp) (σ : L2.St) (δ : Dl) (ns : List Int) : Prop where
  S : SDo F ((k0, [D]) :: os) as st γ H σ δ
  a : H D = some (SetO w D (fun j => decide (j ∈ ns)) (ddI ns).length)
variable {k0 : Nat} {D : Addr} {ns : List Int} {w : World}
theorem SS.go (l : SS w F os k0 D as st γ H σ δ ns) {σ' : L2.St} {δ' : Dl} (g : Go as as' H H') (S : SDo F ((k0, [D]) :: os) as' st' γ H' σ' δ') : SS w F os k0 D as' st' γ H' σ' δ' ns :=
  ⟨S, g.rb.keep _ _ (fun m => (List.nodup_append.mp l.S.nd).2.2 D (List.mem_append_left _ List.mem_cons_self) D m rfl) l.a⟩
theorem SS.push (l : SS w F os k0 D as st γ H σ δ ns) (hk : δ.length ≤ k0) (k : Int) (hz : (ddI ns).length + 1 < scanBound) {Nx : Hp → Prop} (hN : ∀ H', SS w F os k0 D as st γ H' σ δ (ns ++ [k]) → (∀ b, b ≠ D → H' b = H b) → H' D ≠ none → Nx H') : AddI w D (.int k) H Nx := by
  refine ⟨k, _, _, rfl, l.a, hz, ?_⟩
  have e1 : (fun j => decide (j ∈ ns) || decide (j = k)) = fun j => decide (j ∈ ns ++ [k]) := by
    funext j
    rw [Bool.eq_iff_iff]
    simp
  have e2 : (if decide (k ∈ ns) = true then (ddI ns).length else (ddI ns).length + 1) = (ddI (ns ++ [k])).length := by
    rw [ddI_snoc]
    by_cases h : k ∈ ns
    · rw [decide_eq_true h, if_pos rfl, if_pos ((mem_ddI ns).mpr h)]
    · rw [decide_eq_false h, if_neg (by simp), if_neg (fun z => h ((mem_ddI ns).mp z)), List.length_append]; rfl
  rw [e1, e2]
  have c : Chg F ((k0, [D]) :: os) as H (upd H D (SetO w D (fun j => decide (j ∈ ns ++ [k])) (ddI (ns ++ [k])).length)) k0 [D] [D] D := chg_same List.mem_cons_self List.mem_cons_self l.S l.a (fun _ z => nomatch z) (fun _ _ z => nomatch z)
  have S := l.S.mut c (x := none) (fun _ z => nomatch z)
  rw [setOs_same l.S.ix List.mem_cons_self] at S
  rw [List.set_eq_of_length_le hk] at S
  exact hN _ ⟨S, upd_same⟩ (fun b n => upd_ne n) (by rw [upd_same]; exact fun z => nomatch z)
end
section
variable {F : Fr} {δ : Dl} {wi wi1 : TI} {g g1 : TG} {tt tt1 : TT} {te : TE} {vs vs1 : List Nat} {wl : M (List U)} {w : World}
theorem ev_sortSc {wt : U → M Bool} {we : U → M U} (no : noOwn δ vs = true) (hs : Src F wi δ wl)
    (hb : ∀ u st r, wt u st = some r → ∃ δ', TgOk F g vs (wipD δ vs) u δ' ∧ EvT F tt δ' (wt u) ∧ EvW F te δ' (we u)) : EvW F (tCB (rSortedSet w) (tCons (tSci w wi g tt te vs) tNil)) δ (op1 sortDU (lcW wl wt we)) := fun os as st γ σ H c st' S q QQ k => by
  obtain ⟨c1, stx, q0, q⟩ := M.bind_inv q
  obtain ⟨ec, rfl⟩ := M.o_inv q
  obtain ⟨us, st1, qs, q⟩ := M.bind_inv q0
  obtain ⟨r, st2, qr, q⟩ := M.bind_inv q
  obtain ⟨e, rfl⟩ := M.o_inv q
  unfold szU at e
  by_cases hsz : r.length ≤ sizeLine
  case neg => rw [if_neg hsz] at e; cases e
  rw [if_pos hsz] at e
  cases e
  simp only [sortDU] at ec
  cases en : intsL r with
  | none => rw [en] at ec; cases ec
  | some ns =>
  rw [en] at ec
  simp only at ec
  by_cases h64 : (ddI ns).length < 64
  case neg => rw [if_neg h64] at ec; cases ec
  rw [if_pos h64] at ec
  cases ec
  have er := intsL_eq en
  refine hs os as st (ghv σ δ vs ++ γ) σ H us st1 (S.ghost (ghv_ok S vs)) qs _ fun J H1 as1 gh g1 S1 W D hD => ?_
  obtain ⟨k0, hk0, hkl⟩ := nodup_fresh (os.map (·.1)) δ.length
  have S2 := S1.grow hk0 hD (Ex.new (o := SetO w D (fun _ => false) 0) hD) (by rw [upd_same]; exact fun z => nomatch z)
  have hD0 : H D = none := g1.fresh hD
  have hkw : (wipD δ vs).length ≤ k0 := by rw [wipD_len]; exact hkl
  refine ⟨fun i m Hc => m = us.length - i ∧ i ≤ us.length ∧ ∃ as2 st2 ms rest, Go as as2 H Hc ∧ SS w F os k0 D as2 st2 (gh ++ (ghv σ δ vs ++ γ)) Hc (L2.wipe σ vs) (wipD δ vs) ms ∧ compM wt we (us.drop i) st2 = some (.ok rest, st') ∧ ms.map U.int ++ rest = r,
    ⟨us.length, by simp, Nat.zero_le _, as1, st1, [], r, go_new (H1 := H) g1 hD0, ⟨S2.wipe vs, by rw [upd_same]; rfl⟩, by rw [List.drop_zero]; exact qr, rfl⟩, ?_⟩
  rintro i m Hc ⟨rfl, hi, as2, st2, ms, rest, g2, l2, q2, eq⟩
  by_cases hlt : i < us.length
  · right
    refine ⟨W.goes i _ as2 st2 _ _ _ Hc hlt l2.S, fun H' => ∃ m', m' < us.length - i ∧ m' = us.length - (i + 1) ∧ i + 1 ≤ us.length ∧ ∃ as2 st2 ms rest, Go as as2 H H' ∧ SS w F os k0 D as2 st2 (gh ++ (ghv σ δ vs ++ γ)) H' (L2.wipe σ vs) (wipD δ vs) ms ∧ compM wt we (us.drop (i + 1)) st2 = some (.ok rest, st') ∧ ms.map U.int ++ rest = r, fun H' ⟨m', h1, h2, h3⟩ => ⟨m', h1, h2, h3⟩, fun x H' y => ?_⟩
    have ed : us.drop i = us[i] :: us.drop (i + 1) := List.drop_eq_getElem_cons hlt
    rw [ed, compM] at q2
    obtain ⟨b, st3, q3, q2⟩ := M.bind_inv q2
    obtain ⟨δ', tg, ht, he⟩ := hb us[i] st2 _ q3
    obtain ⟨ex, px⟩ := W.yields i _ as2 st2 _ _ _ x Hc H' us[i] (List.getElem?_eq_getElem hlt) l2.S y
    have gx : Go as2 as2 Hc H' := Go.of_ex ex
    have l3 := l2.go gx (l2.S.ex ex)
    refine tg.2 _ as2 st2 _ H' _ x l3.S px _ fun σ2 wq S3 => ⟨by rw [wq, wipe_idem], ?_⟩
    have back : ∀ {as4 : SA} {st4 : Sto} {H4 : Hp}, SDo F ((k0, [D]) :: os) as4 st4 (gh ++ (ghv σ δ vs ++ γ)) H4 σ2 δ' → SDo F ((k0, [D]) :: os) as4 st4 (gh ++ (ghv σ δ vs ++ γ)) H4 (L2.wipe σ vs) (wipD δ vs) := fun S4 => by
      have := S4.wipe vs
      rw [wq, wipe_idem, tg.1, wipD_idem] at this
      exact this
    refine ht _ as2 st2 _ σ2 H' b st3 S3 q3 _ fun H3 as3 g3 S4 => ?_
    cases b with
    | false => exact ⟨us.length - (i + 1), by omega, rfl, hlt, as3, st3, ms, rest, (g2.trans gx).trans g3, l3.go g3 (back S4), q2, eq⟩
    | true =>
      simp only [if_true] at q2 ⊢
      obtain ⟨u, st5, q5, q2⟩ := M.bind_inv q2
      obtain ⟨r', st6, q6, q2⟩ := M.bind_inv q2
      cases q2
      have hu : ∃ kk : Int, u = .int kk := by
        have : u ∈ ns.map U.int := by rw [← er, ← eq]; simp
        obtain ⟨kk, _, rfl⟩ := List.mem_map.mp this
        exact ⟨kk, rfl⟩
      obtain ⟨kk, rfl⟩ := hu
      refine he _ as3 st3 _ σ2 H3 _ st5 S4 q5 _ fun y H5 as5 g5 S5 py => ?_
      have ey : y = .int kk := py
      subst ey
      refine ((l3.go g3 (back S4)).go g5 (back S5)).push hkw kk ?_ fun H6 l6 hk6 hD6 => ?_
      · have h1 : ns = ms ++ (intsL (U.int kk :: r')).getD [] := by
          have : ms.map U.int ++ U.int kk :: r' = ns.map U.int := by rw [eq, er]
          rw [show U.int kk :: r' = ((intsL (U.int kk :: r')).getD []).map U.int from tail_ints this] at this
          rw [← List.map_append] at this
          exact (map_int_inj1 this).symm
        have h2 := ddI_mono ms ((intsL (U.int kk :: r')).getD [])
        rw [← h1] at h2
        have : 100 < scanBound := by decide
        omega
      · have g6 : Go as as5 H H6 := by
          have e6 : H6 = upd H5 D (H6 D |>.get (Option.isSome_iff_ne_none.mpr hD6)) := by
            funext b
            by_cases z : b = D
            · subst z; rw [upd_same]; simp
            · rw [upd_ne z, hk6 b z]
          rw [e6]
          exact go_new (H1 := H) (((g2.trans gx).trans g3).trans g5) hD0
        exact ⟨us.length - (i + 1), by omega, rfl, hlt, as5, st5, ms ++ [kk], r', g6, l6, q6, by rw [List.map_append, List.append_assoc]; exact eq⟩
  · left
    have e : i = us.length := by omega
    subst e
    rw [List.drop_length] at q2
    cases q2
    rw [List.append_nil] at eq
    have en2 : ms = ns := map_int_inj1 (eq.trans er)
    subst en2
    refine ⟨W.stops _ as2 _ _ _ _ Hc l2.S, D, _, _, rfl, l2.a, h64, fun ns' p pw hm hl hp => ?_⟩
    have e1 : ns' = sortD ms := rise_one pw (sortD_pw ms) fun x => by rw [hm x, mem_sortD, decide_eq_true_eq]
    subst e1
    have S9 : SDo F ((k0, [D]) :: os) as2 _ γ Hc σ δ := SDo.restore (g := []) (vs := vs) S no l2.S.unghost
    have S8 := S9.ungrow hkl
    have nb : ¬ ban F os as2 p := S8.notban hp
    exact k (.ref p) _ as2 (g2.trans (Go.of_ex (Ex.new hp))) (S8.ex (Ex.new hp)) ⟨p, _, rfl, nb, upd_same, imAll_ints _⟩
end
end UX

set_option Elab.async false
set_option linter.all false
set_option maxRecDepth 100000
set_option maxHeartbeats 4000000
set_option autoImplicit false
namespace UY
open PySem PySem.Spec PyProof.Rows L2 UX
section
variable {P : Program} {w : World} {A : Around} {E : Value → Shared → Prop} {s : Shared}
end
end UY

set_option Elab.async false
set_option linter.all false
set_option maxRecDepth 100000
set_option maxHeartbeats 4000000
set_option autoImplicit false
namespace UY
open PySem PySem.Spec PyProof.Rows L2 UX
theorem cr_sortSK {X : Cx} (w : World) (hc : X.calm = true) (hw : X.w = w := by rfl) : CallR X (.builtin "sorted") (rSortedSet w) := hw ▸ cr_sortedSet hc
end UY

set_option Elab.async false
set_option linter.all false
set_option maxRecDepth 100000
set_option maxHeartbeats 4000000
set_option autoImplicit false
namespace UX
open PySem PySem.Spec PyProof.Rows L2 UY
open EL (Ex RB BOk Bn TK)
theorem imAll_intsV {G : Cxt} {rs : List Addr} {B : Bn} {H : Hp} : ∀ {ns : List Int} {vs : List V}, imAll G rs B (ns.map .int) vs H → vs = ns.map V.int
  | [], _, h => h
  | n :: ns, _, ⟨v, r, e, h1, h2⟩ => by rw [e, show v = V.int n from h1, imAll_intsV h2]; rfl
section
variable {F : Fr} {δ : Dl} {w : World}
def tupRW (w : M (List U)) : M U := .bind w fun us => .o (if us.length ≤ sizeLine then some (.tup us) else none)
def lstRW (w : M (List U)) : M U := .bind w fun us => .o (if us.length ≤ sizeLine then some (.lst us) else none)
theorem rng1_inv {u : U} {us : List U} (e : rng1U u = some us) : ∃ n : Int, u = .int n ∧ -(2 ^ 62) ≤ n ∧ n < 2 ^ 62 ∧ us = (List.range n.toNat).map fun i => U.int (i : Nat) := by
  cases u <;> simp [rng1U] at e
  rename_i n
  exact ⟨n, rfl, e.1.1, e.1.2, e.2.symm⟩
theorem imAll_rgV {G : Cxt} {rs : List Addr} {B : Bn} {H : Hp} (a : Int) (l : List Nat) : imAll G rs B (l.map fun i => U.int (a + (i : Nat))) (l.map fun i => V.int (a + (i : Nat))) H := by
  induction l with
  | nil => rfl
  | cons x l ih => exact ⟨_, _, rfl, rfl, ih⟩
def EvG (F : Fr) (te : L2.St → Hp → (Int → Int → Hp → Prop) → Prop) (δ : Dl) (w : M (List U)) : Prop := ∀ os as st γ σ H us st', SDo F os as st γ H σ δ → w st = some (.ok us, st') → ∀ Q : Int → Int → Hp → Prop,
  (∀ a b H' as', Go as as' H H' → SDo F os as' st' γ H' σ δ → -(2 ^ 62) ≤ a → a < 2 ^ 62 → -(2 ^ 62) ≤ b → b < 2 ^ 62 → us = (List.range (b - a).toNat).map (fun i => U.int (a + (i : Nat))) → Q a b H') → te σ H Q
theorem eg_1 {ta : TE} {wa : M U} (h : EvR F ta δ wa) : EvG F (tRg1 ta) δ (rng1W wa) := fun os as st γ σ H us st' S q Q k => by
  obtain ⟨u, st1, qu, q⟩ := M.bind_inv q
  obtain ⟨e, rfl⟩ := M.o_inv q
  obtain ⟨n, rfl, h1, h2, rfl⟩ := rng1_inv e
  refine h os as st γ σ H _ _ S qu _ fun v H1 as1 g1 S1 p => ⟨n, p, k 0 n H1 as1 g1 S1 (by decide) (by decide) h1 h2 ?_⟩
  rw [Int.sub_zero]
  exact List.map_congr_left fun i _ => by rw [Int.zero_add]
theorem ev_tupRg {tr : L2.St → Hp → (Int → Int → Hp → Prop) → Prop} {wr : M (List U)} (h : EvG F tr δ wr) : EvW F (tTupRg tr) δ (tupRW wr) := fun os as st γ σ H c st' S q QQ k => by
  obtain ⟨us, st1, qu, q⟩ := M.bind_inv q
  obtain ⟨e, rfl⟩ := M.o_inv q
  by_cases hl : us.length ≤ sizeLine
  case neg => rw [if_neg hl] at e; cases e
  rw [if_pos hl] at e
  cases e
  refine h os as st γ σ H us _ S qu _ fun a b H1 as1 g1 S1 h1 h2 h3 h4 eu => ⟨⟨h1, h2, h3, h4, ?_⟩, fun p hp => ?_⟩
  · rw [eu, List.length_map, List.length_range] at hl
    exact hl
  · exact k _ _ as1 (g1.trans (Go.of_ex (Ex.new hp))) (S1.ex (Ex.new hp)) ⟨p, _, rfl, upd_same, by rw [eu]; exact imAll_rgV a _⟩
def enumL (us : List U) : List U := (List.range us.length).zipWith (fun i u => U.tup [.int (i : Nat), u]) us
def enumU : U → Option (List U)
  | .tup us => some (enumL us)
  | .lst us => some (enumL us)
  | _ => none
def enumW (w : M U) : M (List U) := .bind w fun u => .o (enumU u)
def iEnA (K : PySem.W.Frag) (ta : TA) : TI := fun σ H R => iEnum K ta σ H R ∨ iEnT K ta σ H R
end
theorem pi_or {X : Cx} {tg e : Expr} {w w' : TI} (h : PI X tg e w) (h' : PI X tg e w') : PI X tg e (fun σ H R => w σ H R ∨ w' σ H R) := ⟨fun pins s σ H R I z => z.elim (fun z => h.run pins s σ H R I z) fun z => h'.run pins s σ H R I z⟩
theorem pi_enAK {X : Cx} (K : PySem.W.Frag) {e : Expr} {ta : TA} {p pos tpos : Pos} {elts : List Expr} {kk : Nat} (hg : Gl X "enumerate") (hm : X.mg "enumerate" = none) (ha : PA X [e] ta) (hs : starEach [e] X.env = [(false, eval e X.env)] := by rfl) (hK : X.K = K := by rfl) :
    PI X (.Tuple elts kk tpos) (.Call (.Name "enumerate" p) [e] [] pos) (iEnA K ta) := hK ▸ pi_or (pi_enum hg hm ha hs) (pi_enT hg hm ha hs)
theorem enumL_len (us : List U) : (enumL us).length = us.length := by unfold enumL; rw [List.length_zipWith, List.length_range, Nat.min_self]
theorem enumL_get {us : List U} {i : Nat} {u : U} (h : (enumL us)[i]? = some u) : ∃ x, us[i]? = some x ∧ u = .tup [.int (i : Nat), x] := by
  have hi : i < us.length := by have := getElem?_lt h; rwa [enumL_len] at this
  unfold enumL at h
  rw [List.getElem?_zipWith, List.getElem?_range hi, List.getElem?_eq_getElem hi] at h
  cases h
  exact ⟨_, List.getElem?_eq_getElem hi, rfl⟩
section
variable {F : Fr} {δ : Dl} {ta : TE} {wa : M U}
theorem src_enum (ha : EvW F ta δ wa) : Src F (iEnA F.G.K (tCons ta tNil)) δ (enumW wa) := fun os as st γ σ H us st' S q Q k => by
  obtain ⟨u, st1, qu, q⟩ := M.bind_inv q
  obtain ⟨e, rfl⟩ := M.o_inv q
  cases u <;> simp [enumU] at e
  · subst e
    refine .inr (ha os as st γ σ H _ _ S qu _ fun v H1 as1 g1 S1 p1 => ?_)
    have S1' := S1.ghost (g := [(_, v)]) fun z m => by rw [List.mem_singleton] at m; rw [m]; exact p1
    obtain ⟨a, vs, rfl, hs, hv⟩ := id p1
    refine ⟨a, vs, rfl, EL.sqT_of hs, k _ H1 as1 _ g1 S1' ⟨fun i os as st γ σ δ H hi S2 => ?_, fun os as st γ σ δ H S2 => ?_, fun i os as st γ σ δ x H H' z e S2 y => ?_⟩⟩ <;> obtain ⟨a2, vs2, ev2, ht, hv2⟩ := S2.gh _ List.mem_cons_self <;> cases ev2
    · rw [enumL_len] at hi
      have h1 : i < vs2.length := by rw [imAll_len hv2]; omega
      exact ⟨vs2, vs2[i], EL.sqT_of ht, List.getElem?_eq_getElem h1⟩
    · exact ⟨vs2, EL.sqT_of ht, by rw [enumL_len, imAll_len hv2]⟩
    · obtain ⟨T, x1, rfl, hT, rfl, f1⟩ := y
      obtain ⟨c, e1, rfl⟩ := enumL_get e
      obtain ⟨y1, e3, p3⟩ := imAll_get hv2 e1
      rw [f1 _ (EL.sqT_of ht)] at e3
      cases e3
      exact ⟨Ex.new hT, zip_pair hT rfl p3⟩
  · subst e
    refine .inl (ha os as st γ σ H _ _ S qu _ fun v H1 as1 g1 S1 p1 => ?_)
    have S1' := S1.ghost (g := [(_, v)]) fun z m => by rw [List.mem_singleton] at m; rw [m]; exact p1
    obtain ⟨a, vs, rfl, nb, hs, hv⟩ := id p1
    refine ⟨a, vs, rfl, EL.sqL_of hs, k _ H1 as1 _ g1 S1' ⟨fun i os as st γ σ δ H hi S2 => ?_, fun os as st γ σ δ H S2 => ?_, fun i os as st γ σ δ x H H' z e S2 y => ?_⟩⟩ <;> obtain ⟨a2, vs2, ev2, n2, ht, hv2⟩ := S2.gh _ List.mem_cons_self <;> cases ev2
    · rw [enumL_len] at hi
      have h1 : i < vs2.length := by rw [imAll_len hv2]; omega
      exact ⟨vs2, vs2[i], EL.sqL_of ht, List.getElem?_eq_getElem h1⟩
    · exact ⟨vs2, EL.sqL_of ht, by rw [enumL_len, imAll_len hv2]; exact Nat.le_refl _⟩
    · obtain ⟨T, x1, rfl, hT, rfl, f1⟩ := y
      obtain ⟨c, e1, rfl⟩ := enumL_get e
      obtain ⟨y1, e3, p3⟩ := imAll_get hv2 e1
      rw [f1 _ (EL.sqL_of ht)] at e3
      cases e3
      exact ⟨Ex.new hT, zip_pair hT rfl p3⟩
end
end UX

set_option Elab.async false
set_option linter.all false
set_option maxRecDepth 100000
set_option maxHeartbeats 4000000
set_option autoImplicit false
namespace UX
open PySem PySem.Spec PyProof.Rows L2 UY
open EL (Ex RB BOk Bn TK)
def putU (d k v : U) : Option U := match d with
  | .dct ks us => if ks.length < sizeLine then match keyU k with
    | some k => match idxK k ks with
      | some j => if ks.Nodup then some (.dct ks (us.set j v)) else none
      | none => some (.dct (ks ++ [k]) (us ++ [v]))
    | none => none else none
  | .dcT ks us => if ks.length < sizeLine then match tkeyU k with
    | some k => match idxK k ks with
      | some j => if ks.Nodup then some (.dcT ks (us.set j v)) else none
      | none => some (.dcT (ks ++ [k]) (us ++ [v]))
    | none => none else none
  | _ => none
section
variable {κ : Type} [DecidableEq κ]
theorem idx_any {k : κ} : ∀ {ks : List κ} {vs : List V} {j : Nat}, ks.length = vs.length → idxK k ks = some j → ((ks.zip vs).any fun kv => decide (kv.1 = k)) = true
  | [], _, _, _, e => by cases e
  | x :: ks, [], _, l, _ => by cases l
  | x :: ks, v :: vs, j, l, e => by
    unfold idxK at e
    by_cases z : x = k
    · simp [z]
    · rw [if_neg z] at e
      obtain ⟨j', e', rfl⟩ := Option.map_eq_some_iff.mp e
      rw [List.zip_cons_cons, List.any_cons, idx_any (by simpa using l) e', Bool.or_true]
theorem putK_at {k : κ} {y : V} {ks : List κ} {vs : List V} {j : Nat} (l : ks.length = vs.length) (nd : ks.Nodup) (e : idxK k ks = some j) : putK (ks.zip vs) k y = ks.zip (vs.set j y) := by
  unfold putK
  rw [if_pos (idx_any l e)]
  exact putK_set l nd e
end
section
variable {F : Fr} {S L : Type} {δ : Dl} {δn : S → Dl} {δl : L → Dl} {t2 : TS} {i : Nat}
theorem im_tkey {G : Cxt} {rs : List Addr} {B : Bn} {H : Hp} {u : U} {v : V} {k : List Key} (e : tkeyU u = some k) (h : im G rs B u v H) : ∃ b, v = .ref b ∧ H b = some (.tup (k.map kV)) := by
  cases u <;> simp [tkeyU] at e
  obtain ⟨b, vs, rfl, hb, hv⟩ := h
  rw [im_keys e hv] at hb
  exact ⟨b, rfl, hb⟩
theorem put_zip {κ : Type} [DecidableEq κ] {ks ks' : List κ} {us us' : List U} {key : κ} {x : U} {vs : List V} {v : V} {G : Cxt} {rs : List Addr} {B : Bn} {H : Hp} (l : ks.length = us.length) (hv : imAll G rs B us vs H) (hx : im G rs B x v H)
    (e : (match idxK key ks with | some j => if ks.Nodup then some (ks, us.set j x) else none | none => some (ks ++ [key], us ++ [x])) = some (ks', us')) : ∃ vs', putK (ks.zip vs) key v = ks'.zip vs' ∧ ks'.length = us'.length ∧ imAll G rs B us' vs' H := by
  have ll : ks.length = vs.length := by rw [l, imAll_len hv]
  cases ei : idxK key ks with
  | some j =>
    rw [ei] at e
    simp only at e
    split at e
    · rename_i nd
      cases e
      exact ⟨vs.set j v, putK_at ll nd ei, by rw [List.length_set, l], imAll_set hv hx⟩
    · cases e
  | none =>
    rw [ei] at e
    cases e
    exact ⟨vs ++ [v], putK_zip ll ei, by simp [l], imAll_snoc hv hx⟩
theorem SDo.redo {os : Os} {as : SA} {st : Sto} {γ : List (U × V)} {σ : L2.St} {H : Hp} {d' : U} {a : Addr} {o o' : HO} (Q : SDo F os as st γ H σ δ) (m : (i, [a]) ∈ os) (e0 : σ[i]? = some (some (.ref a))) (e3 : H a = some o) (nt : ∀ xs, o ≠ .tup xs) (nf : ∀ y u, o ≠ .frz y u)
    (hn : (∀ {us : List U} {vs : List V}, imAll F.G (rts as) (ban F os as) us vs H → imAll F.G (rts as) (ban F os as) us vs (upd H a o')) → ownD F.G (rts as) (ban F os as) (.dct .leaf) d' (.ref a) (upd H a o') [a]) : SDo F os as st γ (upd H a o') σ (δ.set i (some (.own (.dct .leaf) d'))) := by
  have so := setOs_same Q.ix m
  have c : Chg F os as H (upd H a o') i [a] [a] a := chg_same m List.mem_cons_self Q e3 nt nf
  have := Q.mut c (x := some (.own (.dct .leaf) d')) fun s es => by
    cases es
    refine ⟨_, _, .ref a, rfl, e0, ?_⟩
    rw [so]
    exact hn fun h => by have := c.imAll h; rw [so] at this; exact this
  rw [so] at this
  exact this
theorem SDo.put {os : Os} {as : SA} {st : Sto} {γ : List (U × V)} {σ : L2.St} {H : Hp} {d k x d' : U} {y v : V} (Q : SDo F os as st γ H σ δ) (hd : δ[i]? = some (some (.own (.dct .leaf) d))) (e : putU d k x = some d') (pk : im F.G (rts as) (ban F os as) k y H) (px : im F.G (rts as) (ban F os as) x v H) :
    ∃ a H', σ[i]? = some (some (.ref a)) ∧ DPut H a y v H' ∧ SDo F os as st γ H' σ (δ.set i (some (.own (.dct .leaf) d'))) := by
  obtain ⟨v0, e0, A, m, o⟩ := Q.get hd
  cases d with
  | dct ks us =>
    obtain ⟨a, vs, e1, e2, e3, l, hv⟩ := own_dct.mp o
    subst e1 e2
    simp only [putU] at e
    split at e
    · rename_i hl
      cases ek : keyU k with
      | none => rw [ek] at e; cases e
      | some key =>
        rw [ek] at e
        simp only at e
        have ey := im_key ek pk
        subst ey
        have hz : (ks.zip vs).length < sizeLine := by rw [List.length_zip]; omega
        obtain ⟨ks', us', e5, rfl⟩ : ∃ ks' us', (match idxK key ks with | some j => if ks.Nodup then some (ks, us.set j x) else none | none => some (ks ++ [key], us ++ [x])) = some (ks', us') ∧ d' = .dct ks' us' := by
          cases ei : idxK key ks with
          | some j =>
            rw [ei] at e
            simp only at e ⊢
            split at e
            · rename_i nd
              cases e
              exact ⟨_, _, if_pos nd, rfl⟩
            · cases e
          | none => rw [ei] at e; cases e; exact ⟨_, _, rfl, rfl⟩
        obtain ⟨vs', p1, p2, p3⟩ := put_zip l hv px e5
        refine ⟨a, _, e0, DPut.k e3 hz, ?_⟩
        rw [p1]
        exact Q.redo m e0 e3 (fun _ z => nomatch z) (fun _ _ z => nomatch z) fun t => own_dct.mpr ⟨a, vs', rfl, rfl, upd_same, p2, t p3⟩
    · cases e
  | dcT ks us =>
    obtain ⟨a, vs, e1, e2, e3, l, hv⟩ := own_dcT.mp o
    subst e1 e2
    simp only [putU] at e
    split at e
    · rename_i hl
      cases ek : tkeyU k with
      | none => rw [ek] at e; cases e
      | some key =>
        rw [ek] at e
        simp only at e
        obtain ⟨b, ey, hb⟩ := im_tkey ek pk
        subst ey
        have hz : (ks.zip vs).length < sizeLine := by rw [List.length_zip]; omega
        obtain ⟨ks', us', e5, rfl⟩ : ∃ ks' us', (match idxK key ks with | some j => if ks.Nodup then some (ks, us.set j x) else none | none => some (ks ++ [key], us ++ [x])) = some (ks', us') ∧ d' = .dcT ks' us' := by
          cases ei : idxK key ks with
          | some j =>
            rw [ei] at e
            simp only at e ⊢
            split at e
            · rename_i nd
              cases e
              exact ⟨_, _, if_pos nd, rfl⟩
            · cases e
          | none => rw [ei] at e; cases e; exact ⟨_, _, rfl, rfl⟩
        obtain ⟨vs', p1, p2, p3⟩ := put_zip l hv px e5
        refine ⟨a, _, e0, DPut.t e3 hb hz, ?_⟩
        rw [p1]
        exact Q.redo m e0 e3 (fun _ z => nomatch z) (fun _ _ z => nomatch z) fun t => own_dcT.mpr ⟨a, vs', rfl, rfl, upd_same, p2, t p3⟩
    · cases e
  | _ => cases e
theorem blk_dput {tv ty : TE} {wv wk : M U} {d : U} {k : U → M (Out S L)} (hd : δ[i]? = some (some (.own (.dct .leaf) d))) (hv : EvW F tv δ wv) (hk : EvW F ty δ wk) (h2 : ∀ u, Blk F t2 (δ.set i (some (.own (.dct .leaf) u))) (k u) δn δl) :
    Blk F (tSeq (sDPut (tVar i) ty tv) t2) δ (.bind wv fun x => .bind wk fun y => .bind (.o (putU d y x)) k) δn δl := fun D os as st γ σ H o st' Q q P => by
  obtain ⟨x, st1, q1, q2⟩ := M.bind_inv q
  obtain ⟨y, st2, q3, q4⟩ := M.bind_inv q2
  obtain ⟨d', st3, q5, q6⟩ := M.bind_inv q4
  obtain ⟨e, rfl⟩ := M.o_inv q5
  clear q q2 q4 q5
  refine hv os as st γ σ H x _ Q q1 _ fun v H1 as1 g1 S1 px => ?_
  have S1' : SDo F os as1 st1 ([(x, v)] ++ γ) H1 σ δ := S1.ghost fun z m => by rw [List.mem_singleton] at m; rw [m]; exact px
  obtain ⟨v0, e0, _⟩ := S1.get hd
  refine ⟨v0, e0, hk os as1 st1 _ σ H1 y _ S1' q3 _ fun kv H2 as2 g2 S2 pk => ?_⟩
  obtain ⟨a, H', ea, hp, S3⟩ := S2.put hd e pk (S2.gh (x, v) List.mem_cons_self)
  rw [ea] at e0
  cases e0
  exact ⟨a, H', rfl, hp, h2 d' D os as2 _ γ σ H' o st' (S3.unghost (g := [(x, v)])) q6 P⟩
end
section
variable {F : Fr} {S L : Type} {δ : Dl} {i : Nat} {Sh0 : Sh} {te td tx : TE}
def xitemM (wd : M U) (wx : M (U × U)) : M (U × U) := .bind wd fun d => .bind wx fun p => .o ((itemU d p.1).map fun u => (u, p.2))
def itX (w : M (U × U)) : M (List U × U) := .bind w fun p => .o ((itU p.1).map fun us => (us, p.2))
end
section
variable {F : Fr} {S L : Type} {δ : Dl} {i : Nat} {Sh0 : Sh} {wi : TI} {g : TG} {tb : TS} {wl : M (List U × U)} {δ2 : L → Dl}
end
end UX

set_option Elab.async false
set_option linter.all false
set_option maxRecDepth 100000
set_option maxHeartbeats 4000000
set_option autoImplicit false
namespace UX
open PySem PySem.Spec PyProof.Rows L2 UY
open EL (Ex RB BOk Bn TK)
section
variable {B : Bn} {H : Hp} {d : Addr} {u0 : HO} {od : Obj}
end
section
variable {F : Fr} {os : Os} {as as' : SA} {st st' : Sto} {γ : List (U × V)} {H H' : Hp} {σ : L2.St} {δ : Dl} {d : Addr} {u0 : HO} {od : Obj}
end
def kU : Key → U
  | .inl i => .int i
  | .inr x => .str x
def keysL : U → Option (List U)
  | .dct ks _ => some (ks.map kU)
  | .dcT ks _ => some (ks.map fun k => .tup (k.map kU))
  | _ => none
def keysW (w : M U) : M (List U) := .bind w fun u => .o (keysL u)
section
variable {F : Fr} {δ : Dl} {wi : TI} {g : TG} {tt : TT} {te : TE} {vs : List Nat} {wl : M (List U)}
end
end UX

set_option Elab.async false
set_option linter.all false
set_option maxRecDepth 100000
set_option maxHeartbeats 4000000
set_option autoImplicit false
namespace UX
open PySem PySem.Spec PyProof.Rows L2 UY
open EL (Ex RB BOk Bn TK)
section
variable {F : Fr} {S L : Type} {δ : Dl} {δn : S → Dl} {δl : L → Dl} {t2 : TS} {i : Nat} {X : TE} {w : M U}
end
section
variable {F : Fr} {os os' : Os} {as as' : SA} {st st' : Sto} {γ : List (U × V)} {H H' : Hp} {σ : L2.St} {δ : Dl} {i k : Nat} {A : List Addr}
theorem flo_perm (p : os.Perm os') : (flo os).Perm (flo os') := (p.map _).flatten
theorem ban_perm (p : os.Perm os') {a : Addr} : ban F os as a ↔ ban F os' as a := by
  unfold ban
  rw [(flo_perm p).mem_iff]
theorem SDo.perm (S : SDo F os as st γ H σ δ) (p : os.Perm os') : SDo F os' as st γ H σ δ := by
  have up : ∀ u v, im F.G (rts as) (ban F os as) u v H → im F.G (rts as) (ban F os' as) u v H := fun u v h => im_sub (fun a _ b => (ban_perm p).mpr b) u v h
  refine ⟨fun q m => up _ _ (S.gh q m), S.rel, fun a b => S.ok a ((ban_perm p).mpr b), ((flo_perm p).append_right _).nodup S.nd, (p.map _).nodup S.ix, fun a m => S.new a ((flo_perm p).mem_iff.mpr m), fun a m => S.nb a (m.imp (fun m => (flo_perm p).mem_iff.mpr m) id), StOk.mono up (fun _ _ h => h) (fun _ _ => rfl) S.sto, S.len, fun i s e => ?_⟩
  obtain ⟨v, h1, h2⟩ := S.at_ i s e
  refine ⟨v, h1, ?_⟩
  match s, h2 with
  | .im u, h2 => exact up _ _ h2
  | .raw _, h2 => exact h2
  | .own s u, ⟨A, m, h2⟩ => exact ⟨A, p.mem_iff.mp m, own_mono up (fun _ _ h => h) s u v A (fun _ _ => rfl) h2⟩
def Pend (F : Fr) (os : Os) (as : SA) (H : Hp) (s : Sh) (u : U) (v : V) (k : Nat) (A : List Addr) : Prop := (k, A) ∈ os ∧ ownD F.G (rts as) (ban F os as) s u v H A
theorem Pend.go {s : Sh} {u : U} {v : V} (p : Pend F os as H s u v k A) (S : SDo F os as st γ H σ δ) (g : Go as as' H H') : Pend F os as' H' s u v k A :=
  ⟨p.1, own_go g p.2 (fun a z q => (List.nodup_append.mp S.nd).2.2 a (mem_flo p.1 z) a q rfl) fun a z => S.ok a (.inr (.inl (mem_flo p.1 z)))⟩
theorem Pend.more {s : Sh} {u : U} {v : V} {j : Nat} {A' : List Addr} (p : Pend F os as H s u v k A) (S : SDo F os as st γ H σ δ) (hn : ∀ a ∈ A', H a = none) (g : Go as as' H H') : Pend F ((j, A') :: os) as' H' s u v k A := by
  refine ⟨List.mem_cons_of_mem _ p.1, own_go (F := F) (os := (j, A') :: os) g (own_mono (fun u v h => im_sub (sub_cons (F := F) (os := os) (as := as) (k := j) hn) u v h) (fun _ _ h => h) s u v A (fun _ _ => rfl) p.2) (fun a z q => (List.nodup_append.mp S.nd).2.2 a (mem_flo p.1 z) a q rfl) fun a z => S.ok a (.inr (.inl (mem_flo p.1 z)))⟩
theorem pend_new {s : Sh} {u : U} {v : V} (o : ownD F.G (rts as) (ban F ((0, A) :: os) as) s u v H A) : Pend F ((k, A) :: os) as H s u v k A :=
  ⟨List.mem_cons_self, own_mono (fun u v h => im_sub (fun a _ b => by
    rcases b with b | b | b
    · exact .inl b
    · exact .inr (.inl b)
    · exact .inr (.inr b)) u v h) (fun _ _ h => h) s u v A (fun _ _ => rfl) o⟩
theorem SDo.settle {s : Sh} {u : U} {v : V} (S : SDo F os as st γ H σ δ) (hk : δ.length ≤ k) (p : Pend F os as H s u v k A) : ∃ os', SDo F os' as st γ H (σ.set i (some v)) (δ.set i (some (.own s u))) ∧
    ∀ (s2 : Sh) (u2 : U) (v2 : V) (k2 : Nat) (A2 : List Addr), k2 ≠ k → k2 ≠ i → Pend F os as H s2 u2 v2 k2 A2 → Pend F os' as H s2 u2 v2 k2 A2 := by
  have pm : os.Perm ((k, A) :: os.erase (k, A)) := List.perm_cons_erase p.1
  have S1 := S.perm pm
  have o := own_mono (fun u v h => im_sub (fun a _ b => (ban_perm (F := F) (as := as) pm).mpr (show ban F ((k, A) :: os.erase (k, A)) as a by
    rcases b with b | b | b
    · exact .inl b
    · exact .inr (.inl b)
    · exact .inr (.inr b))) u v h) (fun _ _ h => h) s u v A (fun _ _ => rfl) p.2 (B' := ban F ((0, A) :: os.erase (k, A)) as) (rs' := rts as)
  refine ⟨_, S1.own hk o, fun s2 u2 v2 k2 A2 n1 n2 p2 => ?_⟩
  have m2 : (k2, A2) ∈ os.erase (k, A) := (List.mem_erase_of_ne (fun e => n1 (Prod.mk.inj e).1)).mpr p2.1
  refine ⟨List.mem_cons_of_mem _ (List.mem_filter.mpr ⟨m2, by simpa using n2⟩), own_mono (fun u v h => im_sub (fun a _ b => ?_) u v h) (fun _ _ h => h) s2 u2 v2 A2 (fun _ _ => rfl) p2.2⟩
  rcases b with b | b | b
  · exact .inl b
  · refine .inr (.inl ((flo_perm pm).mem_iff.mpr ?_))
    rcases List.mem_append.mp (show a ∈ A ++ flo ((os.erase (k, A)).filter fun q => decide (q.1 ≠ i)) from b) with z | z
    · exact List.mem_append_left _ z
    · exact List.mem_append_right _ (flo_filt z)
  · exact .inr (.inr b)
end
end UX

set_option Elab.async false
set_option linter.all false
set_option maxRecDepth 100000
set_option maxHeartbeats 4000000
set_option autoImplicit false
namespace UX
open PySem PySem.Spec PyProof.Rows L2 UY
open EL (Ex RB BOk Bn TK)
section
variable {F : Fr} {S L : Type} {δ : Dl} {tz : TS} {δn : S → Dl} {δl : L → Dl}
theorem blk_par_WN {i0 i1 : Nat} {t0 t1 : TE} {w0 w1 : M U} {s1 : Sh} {k : U → U → M (Out S L)} (h0 : EvW F t0 δ w0) (h1 : EvN F s1 t1 δ w1) (h : ∀ a0 a1, Blk F tz ((δ.set i0 (some (.im a0))).set i1 (some (.own s1 a1))) (k a0 a1) δn δl) : Blk F (tSeq (tPar i0 i1 (tCons t0 (tCons t1 tNil))) tz) δ (.bind w0 fun a0 => .bind w1 fun a1 => k a0 a1) δn δl := fun D os as st γ σ H o st' Q q P => by
  obtain ⟨a0, st1, q0, r0⟩ := M.bind_inv q
  obtain ⟨a1, st2, q1, r1⟩ := M.bind_inv r0
  clear q r0
  refine h0 os as st γ σ H a0 _ Q q0 _ fun v0 H1 as1 g1 S1 p0 => ?_
  have T1 : SDo F os as1 st1 ([(a0, v0)] ++ γ) H1 σ δ := S1.ghost fun z m => by rw [List.mem_singleton] at m; rw [m]; exact p0
  refine h1 os as1 st1 ([(a0, v0)] ++ γ) σ H1 a1 _ T1 q1 _ fun v1 H2 as2 A1 g2 S2 p1 n1 => ?_
  obtain ⟨j1, m1, l1⟩ := nodup_fresh (os.map (·.1)) (max δ.length (i0 + i1 + 1))
  have T2 := S2 j1 m1
  have d1 := pend_new (k := j1) p1
  have E0 := T2.set (i := i0) (x := .im a0) (T2.gh (a0, v0) List.mem_cons_self)
  obtain ⟨o1, E1, f1⟩ := E0.settle (i := i1) (k := j1) (by (try simp only [List.length_set]); omega) d1
  exact ⟨v0, v1, rfl, h a0 a1 D _ as2 st2 γ _ H2 o st' (SDo.unghost (g := [(a0, v0)]) E1) r1 P⟩
theorem blk_tup_WWW {i0 i1 i2 : Nat} {t0 t1 t2 : TE} {w0 w1 w2 : M U} {k : U → U → U → M (Out S L)} (h0 : EvW F t0 δ w0) (h1 : EvW F t1 δ w1) (h2 : EvW F t2 δ w2) (h : ∀ a0 a1 a2, Blk F tz (((δ.set i0 (some (.im a0))).set i1 (some (.im a1))).set i2 (some (.im a2))) (k a0 a1 a2) δn δl) : Blk F (tSeq (tAsg (tTup (tCons t0 (tCons t1 (tCons t2 tNil)))) (gTup F.G.K 3 (gCons (gName i0) (gCons (gName i1) (gCons (gName i2) gNil))))) tz) δ (.bind w0 fun a0 => .bind w1 fun a1 => .bind w2 fun a2 => k a0 a1 a2) δn δl := fun D os as st γ σ H o st' Q q P => by
  obtain ⟨a0, st1, q0, r0⟩ := M.bind_inv q
  obtain ⟨a1, st2, q1, r1⟩ := M.bind_inv r0
  obtain ⟨a2, st3, q2, r2⟩ := M.bind_inv r1
  clear q r0 r1
  refine h0 os as st γ σ H a0 _ Q q0 _ fun v0 H1 as1 g1 S1 p0 => ?_
  have T1 : SDo F os as1 st1 ([(a0, v0)] ++ γ) H1 σ δ := S1.ghost fun z m => by rw [List.mem_singleton] at m; rw [m]; exact p0
  refine h1 os as1 st1 ([(a0, v0)] ++ γ) σ H1 a1 _ T1 q1 _ fun v1 H2 as2 g2 S2 p1 => ?_
  have T2 : SDo F os as2 st2 ([(a1, v1)] ++ ([(a0, v0)] ++ γ)) H2 σ δ := S2.ghost fun z m => by rw [List.mem_singleton] at m; rw [m]; exact p1
  refine h2 os as2 st2 ([(a1, v1)] ++ ([(a0, v0)] ++ γ)) σ H2 a2 _ T2 q2 _ fun v2 H3 as3 g3 S3 p2 => ?_
  have T3 : SDo F os as3 st3 ([(a2, v2)] ++ ([(a1, v1)] ++ ([(a0, v0)] ++ γ))) H3 σ δ := S3.ghost fun z m => by rw [List.mem_singleton] at m; rw [m]; exact p2
  have E0 := T3.set (i := i0) (x := .im a0) (T3.gh (a0, v0) (List.mem_cons_of_mem _ (List.mem_cons_of_mem _ List.mem_cons_self)))
  have E1 := E0.set (i := i1) (x := .im a1) (E0.gh (a1, v1) (List.mem_cons_of_mem _ List.mem_cons_self))
  have E2 := E1.set (i := i2) (x := .im a2) (E1.gh (a2, v2) List.mem_cons_self)
  have Z := (SDo.unghost (g := [(a0, v0)]) (SDo.unghost (g := [(a1, v1)]) (SDo.unghost (g := [(a2, v2)]) E2)))
  exact ⟨(by decide : 3 ≤ sizeLine), fun p hp => ⟨p, [v0, v1, v2], rfl, EL.sqT_of upd_same, rfl, v0, [v1, v2], rfl, v1, [v2], rfl, v2, [], rfl, rfl, h a0 a1 a2 D _ as3 st3 γ _ _ o st' (Z.ex (Ex.new hp)) r2 P⟩⟩
end
end UX

set_option Elab.async false
set_option linter.all false
set_option maxRecDepth 100000
set_option maxHeartbeats 4000000
set_option autoImplicit false
namespace UX
open PySem PySem.Spec PyProof.Rows L2 UY
open EL (Ex RB BOk Bn TK)
section
variable {F : Fr}
end
end UX

set_option Elab.async false
set_option linter.all false
set_option maxRecDepth 100000
set_option maxHeartbeats 4000000
set_option autoImplicit false
namespace UX
open PySem PySem.Spec PyProof.Rows L2 UY
open EL (Ex RB BOk Bn TK rOr op_or)
def M.bind2 {β : Type} (w : M (U × U)) (k : U → U → M β) : M β := .bind w fun p => k p.1 p.2
section
variable {F : Fr} {S L : Type} {δ : Dl} {i j : Nat} {Sh0 : Sh} {te : TE} {t2 : TS} {δn : S → Dl} {δl : L → Dl}
end
def M.bindS {β : Type} (w : M (U × U)) (k : U → M β) : M β := .bind w fun p => k p.2
section
variable {F : Fr} {S L : Type} {δ : Dl} {i j : Nat} {Sh0 : Sh} {te : TE} {t2 : TS} {δn : S → Dl} {δl : L → Dl}
theorem blk_x2 {w : M (U × U)} {k : U → M (Out S L)} (h : EvX F i Sh0 te δ w) (h2 : ∀ u, Blk F t2 (δ.set i (some (.own Sh0 u))) (k u) δn δl) : Blk F (tSeq (tDrop te) t2) δ (.bindS w k) δn δl := blk_x h h2
end
def fV : U → Option V
  | .int i => some (.int i)
  | .str x => some (.str x)
  | .bl b => some (.bl b)
  | .non => some .non
  | _ => none
def fVs : List U → Option (List V)
  | [] => some []
  | u :: us => match fV u, fVs us with
    | some v, some vs => some (v :: vs)
    | _, _ => none
def seqOf : U → Option (List U)
  | .tup us => some us
  | .lst us => some us
  | _ => none
def inB (a b : U) : Option Bool := match fV a, seqOf b with
  | some v, some us => (fVs us).map fun vs => inV v vs
  | _, _ => match pd a, pd b with
    | some d, some (.list ds) => if SeqAt.shaped d = true ∧ SeqAt.shaped (.list ds) = true then some (ds.any fun z => PyData.eqv z d) else none
    | some d, some (.tuple ds) => if SeqAt.shaped d = true ∧ SeqAt.shaped (.tuple ds) = true then some (ds.any fun z => PyData.eqv z d) else none
    | _, _ => none
def inSU (a b : U) : Option U := (inB a b).map .bl
def notInSU (a b : U) : Option U := (inB a b).map fun t => .bl (!t)
theorem im_fV {G : Cxt} {rs : List Addr} {B : Bn} {H : Hp} {u : U} {v w : V} (e : fV u = some v) (h : im G rs B u w H) : w = v ∧ flatV v = true := by
  cases u <;> simp [fV] at e <;> subst e <;> exact ⟨h, rfl⟩
theorem im_fVs {G : Cxt} {rs : List Addr} {B : Bn} {H : Hp} : ∀ {us : List U} {vs ws : List V}, fVs us = some vs → imAll G rs B us ws H → ws = vs ∧ vs.all flatV = true
  | [], _, _, e, h => by cases e; exact ⟨h, rfl⟩
  | u :: us, vs, _, e, ⟨w, r, ew, h1, h2⟩ => by
    unfold fVs at e
    cases e1 : fV u with
    | none => rw [e1] at e; cases e
    | some v =>
      cases e2 : fVs us with
      | none => rw [e1, e2] at e; cases e
      | some vs' =>
        rw [e1, e2] at e
        cases e
        obtain ⟨h3, h4⟩ := im_fV e1 h1
        obtain ⟨h5, h6⟩ := im_fVs e2 h2
        subst ew h3 h5
        exact ⟨rfl, by rw [List.all_cons, h4, h6]; rfl⟩
def rInDT (K : PySem.W.Frag) : R2 := fun x y H Q => ∃ d ds, Dp K H x d ∧ Dp K H y (.tuple ds) ∧ SeqAt.shaped d = true ∧ SeqAt.shaped (.tuple ds) = true ∧ Q (.bl (ds.any fun z => PyData.eqv z d)) H
def rNotInDT (K : PySem.W.Frag) : R2 := fun x y H Q => ∃ d ds, Dp K H x d ∧ Dp K H y (.tuple ds) ∧ SeqAt.shaped d = true ∧ SeqAt.shaped (.tuple ds) = true ∧ Q (.bl (!ds.any fun z => PyData.eqv z d)) H
theorem op_inDT {X : Cx} (K : PySem.W.Frag) (hu : X.A.units + 66 < cLine) (h : X.K = K := by rfl) : OpR X (compareOp .In) (rInDT K) := by
  subst h
  intro pins s σ H x y v u Q I rx ry h
  obtain ⟨d, ds, hd, he, sd, se, q⟩ := h
  obtain ⟨as, r1⟩ := Dp.reads I d x v hd rx
  obtain ⟨bs, r2⟩ := Dp.reads I (.tuple ds) y u he ry
  exact SeqAt.in_tuple_reads r2 r1 (SeqAt.canLay_of_shaped se) (SeqAt.canLay_of_shaped sd) (room_in_shaped sd (by omega)) ⟨.bl _, H, I, rfl, q⟩
theorem op_notInDT {X : Cx} (K : PySem.W.Frag) (hu : X.A.units + 66 < cLine) (h : X.K = K := by rfl) : OpR X (compareOp .NotIn) (rNotInDT K) := by
  subst h
  intro pins s σ H x y v u Q I rx ry h
  obtain ⟨d, ds, hd, he, sd, se, q⟩ := h
  obtain ⟨as, r1⟩ := Dp.reads I d x v hd rx
  obtain ⟨bs, r2⟩ := Dp.reads I (.tuple ds) y u he ry
  exact SeqAt.notIn_tuple_reads r2 r1 (SeqAt.canLay_of_shaped se) (SeqAt.canLay_of_shaped sd) (room_in_shaped sd (by omega)) ⟨.bl _, H, I, rfl, q⟩
def rInA (K : PySem.W.Frag) : R2 := rOr (rIn K false) (rOr (rInD K) (rInDT K))
def rNotInA (K : PySem.W.Frag) : R2 := rOr (rIn K true) (rOr (rNotInD K) (rNotInDT K))
theorem op_inAK {X : Cx} (K : PySem.W.Frag) (hu : X.A.units + 66 < cLine) (h : X.K = K := by rfl) : OpR X (compareOp .In) (rInA K) := op_or (EL.op_inK K h) (op_or (EL.op_inDK K hu h) (op_inDT K hu h))
theorem op_notInAK {X : Cx} (K : PySem.W.Frag) (hu : X.A.units + 66 < cLine) (h : X.K = K := by rfl) : OpR X (compareOp .NotIn) (rNotInA K) := op_or (EL.op_notInK K h) (op_or (EL.op_notInDK K hu h) (op_notInDT K hu h))
section
variable {F : Fr}
theorem in_core {os : Os} {as : SA} {H : Hp} {a b : U} {x y : V} {t : Bool} (ha : rd F os as a x H) (hb : rd F os as b y H) (e : inB a b = some t) :
    (∃ p xs, y = .ref p ∧ (SqL F.G.K H p xs ∨ SqT F.G.K H p xs) ∧ flatV x = true ∧ xs.all flatV = true ∧ t = inV x xs) ∨ (∃ d ds, Dp F.G.K H x d ∧ Dp F.G.K H y (.list ds) ∧ SeqAt.shaped d = true ∧ SeqAt.shaped (.list ds) = true ∧ t = ds.any fun z => PyData.eqv z d) ∨ ∃ d ds, Dp F.G.K H x d ∧ Dp F.G.K H y (.tuple ds) ∧ SeqAt.shaped d = true ∧ SeqAt.shaped (.tuple ds) = true ∧ t = ds.any fun z => PyData.eqv z d := by
  have deep : (match pd a, pd b with
    | some d, some (.list ds) => if SeqAt.shaped d = true ∧ SeqAt.shaped (.list ds) = true then some (ds.any fun z => PyData.eqv z d) else none
    | some d, some (.tuple ds) => if SeqAt.shaped d = true ∧ SeqAt.shaped (.tuple ds) = true then some (ds.any fun z => PyData.eqv z d) else none
    | _, _ => none) = some t → (∃ d ds, Dp F.G.K H x d ∧ Dp F.G.K H y (.list ds) ∧ SeqAt.shaped d = true ∧ SeqAt.shaped (.list ds) = true ∧ t = ds.any fun z => PyData.eqv z d) ∨ ∃ d ds, Dp F.G.K H x d ∧ Dp F.G.K H y (.tuple ds) ∧ SeqAt.shaped d = true ∧ SeqAt.shaped (.tuple ds) = true ∧ t = ds.any fun z => PyData.eqv z d := fun e => by
    cases e1 : pd a with
    | none => rw [e1] at e; cases e
    | some d =>
      cases e2 : pd b with
      | none => rw [e1, e2] at e; cases e
      | some d2 =>
        rw [e1, e2] at e
        cases d2 with
        | list ds =>
          simp only at e
          split at e
          · rename_i h
            cases e
            exact .inl ⟨d, ds, rd_dp ha e1, rd_dp hb e2, h.1, h.2, rfl⟩
          · cases e
        | tuple ds =>
          simp only at e
          split at e
          · rename_i h
            cases e
            exact .inr ⟨d, ds, rd_dp ha e1, rd_dp hb e2, h.1, h.2, rfl⟩
          · cases e
        | _ => cases e
  unfold inB at e
  cases e1 : fV a with
  | none => rw [e1] at e; exact .inr (deep (by simpa using e))
  | some v =>
    cases e2 : seqOf b with
    | none => rw [e1, e2] at e; exact .inr (deep (by simpa using e))
    | some us =>
      rw [e1, e2] at e
      obtain ⟨vs, e3, rfl⟩ := Option.map_eq_some_iff.mp e
      obtain ⟨h1, h2⟩ := im_fV e1 (rd_im0 ha)
      subst h1
      left
      have hb0 := rd_im0 hb
      cases b <;> simp [seqOf] at e2
      · subst e2
        obtain ⟨p, ws, rfl, hp, hv⟩ := hb0
        obtain ⟨h3, h4⟩ := im_fVs e3 hv
        subst h3
        exact ⟨p, ws, rfl, .inr (EL.sqT_of hp), h2, h4, rfl⟩
      · subst e2
        obtain ⟨p, ws, rfl, _, hp, hv⟩ := hb0
        obtain ⟨h3, h4⟩ := im_fVs e3 hv
        subst h3
        exact ⟨p, ws, rfl, .inl (EL.sqL_of hp), h2, h4, rfl⟩
theorem ok_in : OpOk F (rInA F.G.K) inSU := fun os as H a b c x y ok ha hb e QQ k => by
  obtain ⟨t, et, rfl⟩ := Option.map_eq_some_iff.mp e
  rcases in_core ha hb et with ⟨p, xs, h1, h2, h3, h4, h5⟩ | ⟨d, ds, h1, h2, h3, h4, h5⟩ | ⟨d, ds, h1, h2, h3, h4, h5⟩
  · exact .inl ⟨p, xs, h1, h2, h3, h4, k _ H (Ex.refl _) (by rw [h5]; rfl)⟩
  · exact .inr (.inl ⟨d, ds, h1, h2, h3, h4, k _ H (Ex.refl _) (by rw [h5]; rfl)⟩)
  · exact .inr (.inr ⟨d, ds, h1, h2, h3, h4, k _ H (Ex.refl _) (by rw [h5]; rfl)⟩)
theorem ok_notIn : OpOk F (rNotInA F.G.K) notInSU := fun os as H a b c x y ok ha hb e QQ k => by
  obtain ⟨t, et, rfl⟩ := Option.map_eq_some_iff.mp e
  rcases in_core ha hb et with ⟨p, xs, h1, h2, h3, h4, h5⟩ | ⟨d, ds, h1, h2, h3, h4, h5⟩ | ⟨d, ds, h1, h2, h3, h4, h5⟩
  · exact .inl ⟨p, xs, h1, h2, h3, h4, k _ H (Ex.refl _) (by rw [h5]; rfl)⟩
  · exact .inr (.inl ⟨d, ds, h1, h2, h3, h4, k _ H (Ex.refl _) (by rw [h5]; rfl)⟩)
  · exact .inr (.inr ⟨d, ds, h1, h2, h3, h4, k _ H (Ex.refl _) (by rw [h5]; rfl)⟩)
end
end UX

set_option Elab.async false
set_option linter.all false
set_option maxRecDepth 100000
set_option maxHeartbeats 4000000
set_option autoImplicit false
namespace UY
open PySem PySem.Spec PyProof.Rows L2 UX
section
variable {X : Cx} {pins : List (Addr × Obj)} {σ : L2.St} {H : Hp} {s : Shared} {a b : Addr} {r : Value} {d : V} {k : List Key} {A : Around} {E : Value → Shared → Prop}
end
section
variable {X : Cx} {o e f : Expr} {td ty tx : TE} {apos cpos : Pos}
end
end UY

set_option Elab.async false
set_option linter.all false
set_option maxRecDepth 100000
set_option maxHeartbeats 4000000
set_option autoImplicit false
namespace UY
open PySem PySem.Spec PyProof.Rows L2
section
variable {prog : Program} {w : World} {A : Around} {R : Result → Shared → Prop} {s : Shared} {env : Env} {el ta ia tb ib : Expr} {fa fb : List Expr} {sc : Scope} {ps : Pos} {it ac : Value}
end
section
variable {X : Cx}
end
end UY

set_option Elab.async false
set_option linter.all false
set_option maxRecDepth 100000
set_option maxHeartbeats 4000000
set_option autoImplicit false
namespace UX
open PySem PySem.Spec PyProof.Rows L2 UY
open EL (Ex RB BOk Bn TK)
section
variable {F : Fr} {δ : Dl} {wi wi1 : TI} {g g1 : TG} {tt tt1 : TT} {te : TE} {vs vs1 : List Nat} {w0 : M (List U)} {w : World}
end
end UX

set_option Elab.async false
set_option linter.all false
set_option maxRecDepth 100000
set_option maxHeartbeats 4000000
set_option autoImplicit false
namespace UX
open PySem PySem.Spec PyProof.Rows L2 UY
open EL (Ex RB BOk Bn TK)
section
variable {F : Fr} {S L : Type} {δ : Dl} {tz : TS} {δn : S → Dl} {δl : L → Dl}
theorem blk_tup_WW {i0 i1 : Nat} {t0 t1 : TE} {w0 w1 : M U} {k : U → U → M (Out S L)} (h0 : EvW F t0 δ w0) (h1 : EvW F t1 δ w1) (h : ∀ a0 a1, Blk F tz ((δ.set i0 (some (.im a0))).set i1 (some (.im a1))) (k a0 a1) δn δl) : Blk F (tSeq (tAsg (tTup (tCons t0 (tCons t1 tNil))) (gTup F.G.K 2 (gCons (gName i0) (gCons (gName i1) gNil)))) tz) δ (.bind w0 fun a0 => .bind w1 fun a1 => k a0 a1) δn δl := fun D os as st γ σ H o st' Q q P => by
  obtain ⟨a0, st1, q0, r0⟩ := M.bind_inv q
  obtain ⟨a1, st2, q1, r1⟩ := M.bind_inv r0
  clear q r0
  refine h0 os as st γ σ H a0 _ Q q0 _ fun v0 H1 as1 g1 S1 p0 => ?_
  have T1 : SDo F os as1 st1 ([(a0, v0)] ++ γ) H1 σ δ := S1.ghost fun z m => by rw [List.mem_singleton] at m; rw [m]; exact p0
  refine h1 os as1 st1 ([(a0, v0)] ++ γ) σ H1 a1 _ T1 q1 _ fun v1 H2 as2 g2 S2 p1 => ?_
  have T2 : SDo F os as2 st2 ([(a1, v1)] ++ ([(a0, v0)] ++ γ)) H2 σ δ := S2.ghost fun z m => by rw [List.mem_singleton] at m; rw [m]; exact p1
  have E0 := T2.set (i := i0) (x := .im a0) (T2.gh (a0, v0) (List.mem_cons_of_mem _ List.mem_cons_self))
  have E1 := E0.set (i := i1) (x := .im a1) (E0.gh (a1, v1) List.mem_cons_self)
  have Z := (SDo.unghost (g := [(a0, v0)]) (SDo.unghost (g := [(a1, v1)]) E1))
  exact ⟨(by decide : 2 ≤ sizeLine), fun p hp => ⟨p, [v0, v1], rfl, EL.sqT_of upd_same, rfl, v0, [v1], rfl, v1, [], rfl, rfl, h a0 a1 D _ as2 st2 γ _ _ o st' (Z.ex (Ex.new hp)) r1 P⟩⟩
end
end UX

set_option Elab.async false
set_option linter.all false
set_option maxRecDepth 100000
set_option maxHeartbeats 4000000
set_option autoImplicit false
namespace UY
open PySem PySem.Spec PyProof.Rows L2
section
variable {X : Cx}
end
end UY

set_option Elab.async false
set_option linter.all false
set_option maxRecDepth 100000
set_option maxHeartbeats 4000000
set_option autoImplicit false
namespace UX
open PySem PySem.Spec PyProof.Rows L2 UY
open EL (Ex RB BOk Bn TK)
section
variable {F : Fr}
end
end UX

set_option Elab.async false
set_option linter.all false
set_option maxRecDepth 100000
set_option maxHeartbeats 4000000
set_option autoImplicit false
namespace UY
open PySem PySem.Spec PyProof.Rows L2
section
variable {X : Cx} {pins : List (Addr × Obj)} {σ : L2.St} {H : Hp} {s : Shared}
end
end UY

set_option Elab.async false
set_option linter.all false
set_option maxRecDepth 100000
set_option maxHeartbeats 4000000
set_option autoImplicit false
namespace UX
open PySem PySem.Spec PyProof.Rows L2 UY
open EL (Ex RB BOk Bn TK)
section
variable {G : Cxt} {rs : List Addr} {B : Bn} {H : Hp}
end
section
variable {F : Fr}
end
end UX

set_option Elab.async false
set_option linter.all false
set_option maxRecDepth 100000
set_option maxHeartbeats 4000000
set_option autoImplicit false
namespace UX
open PySem PySem.Spec PyProof.Rows L2 UY
open EL (Ex RB BOk Bn TK)
section
variable {F : Fr} {S L : Type} {δ : Dl} {δn : S → Dl} {δl : L → Dl} {t2 : TS} {i : Nat}
theorem ownZ_snoc1 {P : Nat → U → V → Hp → List Addr → Prop} {H : Hp} {u : U} {v : V} {A' : List Addr} : ∀ {us : List U} {n : Nat} {vs : List V} {A : List Addr}, ownZ P n us vs H A → P (n + us.length) u v H A' → ownZ P n (us ++ [u]) (vs ++ [v]) H (A ++ A')
  | [], n, _, _, ⟨e1, e2⟩, p => by subst e1 e2; exact ⟨v, [], A', [], rfl, by simp, by simpa using p, rfl, rfl⟩
  | x :: us, n, _, _, ⟨w, r, A1, A2, e1, e2, h1, h2⟩, p => by
    subst e1 e2
    exact ⟨w, r ++ [v], A1, A2 ++ A', rfl, by simp, h1, ownZ_snoc1 h2 (by rw [show n + 1 + us.length = n + (us.length + 1) by omega]; exact p)⟩
end
end UX

set_option Elab.async false
set_option linter.all false
set_option maxRecDepth 100000
set_option maxHeartbeats 4000000
set_option autoImplicit false
namespace UX
open PySem PySem.Spec PyProof.Rows L2 UY
open EL (Ex RB BOk Bn TK)
section
variable {F : Fr} {δ : Dl} {ta : TA} {wa : M (List U)} {E : XK} {f : List U → M U}
end
end UX

set_option Elab.async false
set_option linter.all false
set_option maxRecDepth 100000
set_option maxHeartbeats 4000000
set_option autoImplicit false
namespace UX
open PySem PySem.Spec PyProof.Rows L2 UY
open EL (Ex RB BOk Bn TK)
section
variable {F : Fr}
end
end UX

set_option Elab.async false
set_option linter.all false
set_option maxRecDepth 100000
set_option maxHeartbeats 4000000
set_option autoImplicit false
namespace UY
open PySem PySem.Spec PyProof.Rows L2
section
variable {prog : Program} {w : World} {A : Around} {E : Value → Shared → Prop} {s : Shared}
theorem places_rev (n : Nat) : Builtin.Slice.slicePlaces ((n : Int) - 1) (-1) (-1) = n := by
  unfold Builtin.Slice.slicePlaces
  have h1 : ¬ ((-1 : Int) > 0) := by omega
  simp only [h1, if_false, Int.neg_neg, Int.ediv_one]
  split <;> omega
theorem sliceApplied_rev {sl : Addr} {vs : Value} {n : Nat} {Q : Int × Int × Nat → Shared → Prop} (hs : s.heap.IsSliceOf sl .none .none vs) (ps : IsPart vs (some (-1)))
    (h : Q ((n : Int) - 1, -1, n) s) : wpAny (model prog w) A (Builtin.Slice.sliceApplied (.ref sl) (pure (n : Int))) Q E s := by
  obtain ⟨os, hos, hcs, hds⟩ := id hs
  unfold Builtin.Slice.sliceApplied Builtin.Slice.sliceFields
  refine wpAny_bind (wpAny_bind (wpAny_field hos hds (x := .none) rfl (wpAny_bind (wpAny_field hos hds (x := .none) rfl (wpAny_bind (wpAny_field hos hds (x := vs) rfl (wpAny_pure ?_)))))))
  refine wpAny_bind (HT.slicePart_ ps ?_)
  show wpAny _ _ (if ((-1 : Int) == 0) = true then _ else _) _ _ s
  rw [if_neg (by decide)]
  refine wpAny_bind (HT.slicePart_ .none (wpAny_bind (HT.slicePart_ .none (wpAny_bind (wpAny_pure ?_)))))
  show wpAny _ _ (pure ((n : Int) - 1, (-1 : Int), Builtin.Slice.slicePlaces ((n : Int) - 1) (-1) (-1))) _ _ s
  rw [places_rev]
  exact wpAny_pure h
theorem fm_map {α β : Type} {f : α → Option β} {g : α → β} : ∀ {l : List α}, (∀ m ∈ l, f m = some (g m)) → l.filterMap f = l.map g
  | [], _ => rfl
  | x :: l, h => by rw [List.filterMap_cons, h x List.mem_cons_self, List.map_cons, fm_map fun m mm => h m (List.mem_cons_of_mem _ mm)]
theorem pick_rev (xs : Array Value) : ((List.range xs.size).filterMap fun (m : Nat) => xs[((xs.size : Int) - 1 + (m : Int) * -1).toNat]?).toArray = xs.toList.reverse.toArray := by
  congr 1
  have e : (List.range xs.size).filterMap (fun (m : Nat) => xs[((xs.size : Int) - 1 + (m : Int) * -1).toNat]?) = (List.range xs.size).map fun m => xs.toList.reverse.getD m .none := by
    refine fm_map fun m hm => ?_
    have hm := List.mem_range.mp hm
    have e1 : ((xs.size : Int) - 1 + (m : Int) * -1).toNat = xs.size - 1 - m := by omega
    rw [e1]
    have h1 : xs.size - 1 - m < xs.size := by omega
    rw [Array.getElem?_eq_getElem h1, List.getD_eq_getElem?_getD, List.getElem?_reverse (by simpa using hm)]
    simp [h1]
  rw [e]
  refine List.ext_getElem (by simp) fun i h1 h2 => ?_
  simp only [List.getElem_map, List.getElem_range]
  rw [List.getD_eq_getElem?_getD, List.getElem?_eq_getElem h2]; rfl
theorem getItem_tuple_rev {t sl : Addr} {items : Array Value} {vs : Value} {Q : Value → Shared → Prop} (ht : IsTup s.heap t items) (hs : s.heap.IsSliceOf sl .none .none vs) (ps : IsPart vs (some (-1)))
    (h : Q (.ref s.heap.objs.size) { s with heap := s.heap.push { cls := .type "tuple", data := .seq items.toList.reverse.toArray } })
    (hsz : items.size ≤ sizeLine) : wpAny (model prog w) A (getItem (.ref t) (.ref sl)) Q E s := by
  have htake : sizeOk (.seq items.toList.reverse.toArray) := by
    show items.toList.reverse.toArray.size ≤ sizeLine
    rw [List.size_toArray, List.length_reverse, Array.length_toList]
    omega
  obtain ⟨os, hos, hcs, hds⟩ := id hs
  have hTs : s.TypeIs (.ref sl) "slice" := ⟨os, hos, hcs⟩
  unfold getItem
  try with_reducible refine wpAny_holding ?_
  first | refine wpAny_bind (wpAny_pure ?_) | skip
  refine wpAny_bind (wpAny_sequenceKey ht.typeIs (by decide) ?_)
  refine wpAny_bind (wpAny_callSpecial?_slot (name := Str.ofString "__getitem__") ht.typeIs PyProof.Rows.slot_tuple_getitem
    (wpAny_call_entry PyProof.Rows.slot_tuple_getitem ht.typeIs entry_tuple_getitem ?_ (args_tuple_getitem _ _)))
  show wpAny _ _ (Builtin.Tuple.tupleItemsOf (.ref t) >>= _) _ _ s
  refine wpAny_bind (tupleItemsOf_ ht ?_)
  refine wpAny_bind (wpAny_typeOf hTs ?_)
  rw [if_pos (by decide)]
  refine wpAny_bind (sliceApplied_rev hs ps ?_)
  have hno : ¬ ((((items.size : Int) - 1) == 0 && (-1 : Int) == 1 && items.size == items.size) = true) := by
    intro q
    rw [Bool.and_eq_true, Bool.and_eq_true] at q
    exact absurd q.1.2 (by decide)
  show wpAny _ _ (if (((items.size : Int) - 1) == 0 && (-1 : Int) == 1 && items.size == items.size) = true then _ else _) _ _ s
  rw [if_neg hno, pick_rev]
  first
    | exact wpAny_bind (m := Builtin.Tuple.tupleExact _) (wpAny_newObj_type (wpAny_pure ⟨_, rfl, wpAny_pure h⟩) htake)
    | exact wpAny_bind (m := Builtin.Tuple.tupleExact _) (wpAny_newObj_type (wpAny_bind (wpAny_pure (wpAny_pure ⟨_, rfl, wpAny_pure h⟩))) htake)
    | exact wpAny_bind (wpAny_bind (m := Builtin.Tuple.tupleExact _) (wpAny_newObj_type (wpAny_pure (wpAny_pure ⟨_, rfl, wpAny_pure h⟩)) htake))
    | exact wpAny_bind (wpAny_bind (m := Builtin.Tuple.tupleExact _) (wpAny_newObj_type (wpAny_pure ⟨_, rfl, wpAny_pure h⟩) htake))
end
section
variable {X : Cx}
def tRevT (K : PySem.W.Frag) (te : TE) : TE := fun σ H Q => te σ H fun x H1 => ∃ a xs, x = .ref a ∧ SqT K H1 a xs ∧ ∀ p, H1 p = none → Q (.ref p) (upd H1 p (.tup xs.reverse))
theorem pe_revT {e : Expr} {te : TE} {k : Nat} {p1 p2 p3 pos : Pos} (K : PySem.W.Frag) (he : PE X e te) (hK : X.K = K := by rfl) : PE X (.Subscript e (.Slice none none (some (.UnaryOp .USub (.Constant (.int 1) k p1) p2)) p3) pos) (tRevT K te) := by
  subst hK
  refine ⟨fun pins s σ H Q I h => ?_⟩
  refine Subscript_ (thn (he.run pins s σ H _ I h) fun v s1 ⟨x, H1, I1, r1, q1⟩ => ?_)
  obtain ⟨a, xs, ex, hx, q⟩ := q1
  subst ex
  cases r1
  have hst : PO X (some (.UnaryOp .USub (.Constant (.int 1) k p1) p2)) (tPart (tUn (rU fun i => .int (-i)) (tC (.int 1)))) := po_some (pe_un un_neg pe_int)
  refine wpAny_Slice (thn (po_none.run pins s1 σ H1 (fun o H2 => o = none ∧ H2 = H1) I1 ⟨rfl, rfl⟩) fun vl s2 ⟨l, H2, I2, pl, el, e2⟩ => ?_)
  subst el e2
  refine thn (po_none.run pins s2 σ H2 (fun o H3 => o = none ∧ H3 = H2) I2 ⟨rfl, rfl⟩) fun vu s3 ⟨u, H3, I3, pu, eu, e3⟩ => ?_
  subst eu e3
  refine thn (hst.run pins s3 σ H3 (fun o H4 => o = some (-1) ∧ H4 = H3) I3 ⟨1, rfl, -1, rfl, rfl, rfl⟩) fun vs s4 ⟨o, H4, I4, ps, eo, e4⟩ => ?_
  subst eo e4
  cases pl
  cases pu
  have I5 : Inv X pins σ H4 { s4 with heap := s4.heap.push { cls := .type "slice", data := .fields #[.none, .none, vs] } } := I4.kept (t' := s4.toks) fun b ob q => Heap.get?_push_of_some _ q
  obtain ⟨its, r, ht, hz⟩ := I5.tuple hx
  have hlen := r.length
  show wpAny (model X.prog X.w) X.A (subscriptTail e (.Slice none none (some (.UnaryOp .USub (.Constant (.int 1) k p1) p2)) p3) (.ref a) (.ref s4.heap.objs.size)) (EP X pins σ Q) X.xe { s4 with heap := s4.heap.push { cls := .type "slice", data := .fields #[.none, .none, vs] } }
  refine tail_any (ops := [.ref a, .ref s4.heap.objs.size]) ht.typeIs (PyProof.Rows.slot_tuple_getitem.lookup) ?_ (by with_unfolding_all rfl)
  refine getItem_tuple_rev ht (Heap.IsSliceOf.new _ .none .none vs) ps ?_ (by rw [List.size_toArray]; omega)
  refine ⟨.ref _, _, I5.laid (t' := s4.toks) (o := .tup xs.reverse) (fun b ob q => Heap.get?_push_of_some _ q) (Nat.le_refl _) ?_, rfl, q _ (I5.hok.fresh (Nat.le_refl _))⟩
  exact ⟨by rw [List.length_reverse]; exact hz, _, r.reverse, IsTup.new _ _⟩
def rIsB (neg : Bool) : R2 := fun x y H Q => ∃ b, y = .bl b ∧ Q (.bl (xor neg (decide (x = .bl b)))) H
theorem op_isB : OpR X (compareOp .Is) (rIsB false) := by
  intro pins s σ H x y v u Q I rx ry h
  obtain ⟨b, rfl, q⟩ := h
  cases ry
  have fin : ∀ {t : Bool}, decide (x = .bl b) = t → plainIs v (.bool b) = true → (v == Value.bool b) = t → wpAny (model X.prog X.w) X.A (compareOp .Is v (.bool b)) (EP X pins σ Q) X.xe s := fun e h1 h2 =>
    wpAny_is_plain h1 (fin_bl I q (by rw [h2, e, Bool.false_xor]))
  cases x with
  | bl c => cases rx; exact fin (t := c == b) (by cases b <;> cases c <;> rfl) rfl (by cases b <;> cases c <;> rfl)
  | ref a => cases rx; exact fin (t := false) rfl rfl rfl
  | non => cases rx; exact fin (t := false) rfl rfl rfl
  | int i => obtain ⟨t, rfl⟩ := rx; exact fin (t := false) rfl rfl rfl
  | str x => obtain ⟨t, rfl⟩ := rx; exact fin (t := false) rfl rfl rfl
  | byt x => obtain ⟨t, rfl⟩ := rx; exact fin (t := false) rfl rfl rfl
  | flt x => obtain ⟨t, rfl⟩ := rx; exact fin (t := false) rfl rfl rfl
  | ty n => cases rx; exact fin (t := false) rfl rfl rfl
end
end UY

set_option Elab.async false
set_option linter.all false
set_option maxRecDepth 100000
set_option maxHeartbeats 4000000
set_option autoImplicit false
namespace UX
open PySem PySem.Spec PyProof.Rows L2 UY
open EL (Ex RB BOk Bn TK)
def revTU : U → Option U
  | .tup us => some (.tup us.reverse)
  | _ => none
def isB (b : Bool) : U → Bool
  | .bl t => t == b
  | _ => false
section
variable {F : Fr} {δ : Dl} {te : TE} {wa : M U}
theorem ev_revT (ha : EvR F te δ wa) : EvW F (tRevT F.G.K te) δ (op1 revTU wa) := fun os as st γ σ H c st' S q QQ k => by
  obtain ⟨a, st1, qa, q⟩ := M.bind_inv q
  obtain ⟨e, rfl⟩ := M.o_inv q
  refine ha os as st γ σ H a _ S qa _ fun x H1 as1 g1 S1 px => ?_
  cases a <;> simp only [revTU] at e <;> first | cases e | skip
  obtain ⟨a, vs, e, s, pv⟩ := px
  exact ⟨a, vs, e, EL.sqT_of s, fun p hp => k _ _ as1 (g1.trans (Go.of_ex (Ex.new hp))) (S1.ex (Ex.new hp)) ⟨p, _, rfl, upd_same, imAll_st (RB.of_ex (Ex.new hp)) _ _ (imAll_rev pv)⟩⟩
theorem isB_rd {os : Os} {as : SA} {H : Hp} {b : Bool} {u : U} {v : V} (h : rd F os as u v H) : decide (v = .bl b) = isB b u := by
  have h := rd_im0 h
  cases u with
  | bl t => cases (show v = .bl t from h); cases t <;> cases b <;> rfl
  | non => cases (show v = .non from h); rfl
  | int i => cases (show v = .int i from h); rfl
  | str i => cases (show v = .str i from h); rfl
  | tup us => obtain ⟨a, _, rfl, _⟩ := h; rfl
  | lst us => obtain ⟨a, _, rfl, _⟩ := h; rfl
  | dct ks us => obtain ⟨a, _, rfl, _⟩ := h; rfl
  | dcT ks us => obtain ⟨a, _, rfl, _⟩ := h; rfl
  | dcN ks us => obtain ⟨a, _, rfl, _⟩ := h; rfl
  | obj c ns us => obtain ⟨a, _, _, rfl, _⟩ := h; rfl
  | top x => cases (show v = .ref _ from h); rfl
  | frl us => obtain ⟨a, _, rfl, _⟩ := h; rfl
  | loc i => obtain ⟨a, _, rfl⟩ := h; rfl
  | exc i => obtain ⟨a, rfl, _⟩ := h; rfl
theorem ev_isB {b : Bool} (ha : EvR F te δ wa) : EvW F (tOp (rIsB false) te (tC (.bl b))) δ (.bind wa fun a => .ret (.bl (isB b a))) := fun os as st γ σ H c st' S q QQ k => by
  obtain ⟨a, st1, qa, q⟩ := M.bind_inv q
  cases q
  exact ha os as st γ σ H a _ S qa _ fun x H1 as1 g1 S1 px => ⟨b, rfl, k _ H1 as1 g1 S1 (by show V.bl _ = V.bl _; rw [isB_rd px, Bool.false_xor])⟩
end
end UX

set_option Elab.async false
set_option linter.all false
set_option maxRecDepth 100000
set_option maxHeartbeats 4000000
set_option autoImplicit false
namespace UX
open PySem PySem.Spec PyProof.Rows L2 UY
open EL (Ex RB BOk Bn TK)
section
variable {F : Fr} {S L : Type} {δ : Dl} {tz : TS} {δn : S → Dl} {δl : L → Dl}
end
end UX

set_option Elab.async false
set_option linter.all false
set_option maxRecDepth 100000
set_option maxHeartbeats 4000000
set_option autoImplicit false
namespace UY
open PySem PySem.Spec PyProof.Rows L2
theorem lay_entry {X : Cx} {pins : List (Addr × Obj)} {σ : L2.St} {H H' : Hp} {s : Shared} {E : Value → Shared → Prop} {D : Addr} {y v : V} {u r : Value} {Q : Unit → Shared → Prop} (hu : X.A.units + 1 < cLine) (I : Inv X pins σ H s) (g : DPut H D y v H') (ry : RelV y u) (rv : RelV v r)
    (k : ∀ s', Inv X pins σ H' s' → Q () s') : wpAny (model X.prog X.w) X.A (dictSet D u r) Q E s := by
  rcases g with ⟨kvs, key, eD, rfl, lt, rfl⟩ | ⟨kvs, key, b, eD, rfl, eb, lt, rfl⟩
  · exact d_dictSet I eD lt ry rv k
  · cases (show u = Value.ref b from ry)
    obtain ⟨z, nsys, xs, rel, dd⟩ := dt_of I.hok eD
    have hx : xs.length ≤ sizeLine := by rw [← Paired.length rel]; exact z
    have hz : (putK kvs key v).length ≤ sizeLine := Nat.le_trans (length_putK kvs key v) lt
    refine wpAny_dictSet_heap (hsz := hx) (show X.A.units < cLine by omega) (key_of I.hok eb) dd fun h1 dd1 same => k _ ?_
    obtain ⟨q, es, ep, hq, h2, h3, h4, _, h5⟩ := dd1
    refine d_write I (by rw [eD]; exact True.intro) same ⟨q, hq⟩ ⟨hz, nsys, _, (rel.put key eb rv).keeps fun c ys ec => ?_, q, es, ep, hq, h2, h3, h4, h5⟩
    rw [upd_ne (ne_of ec eD (fun z => nomatch z))]; exact ec
section
variable {X : Cx}
def newD (t : Bool) : HO := if t = true then .dT [] else .dK []
def tDcG (t : Bool) (wi : TI) (g : TG) (tt : TT) (tk tv : TE) (vs : List Nat) : TE := fun σ H Q => wi σ H fun J H1 => ∀ D, H1 D = none → ∃ W : Nat → Nat → Hp → Prop, (∃ m, W 0 m (upd H1 D (newD t))) ∧ ∀ i m Hc, W i m Hc →
  (J.stop i Hc ∧ Q (.ref D) Hc) ∨ (J.go i Hc ∧ ∃ Nx : Hp → Prop, (∀ Hn, Nx Hn → ∃ m', m' < m ∧ W (i + 1) m' Hn) ∧ ∀ x Hy, J.yld i Hc x Hy → g x (wipe σ vs) Hy fun σ2 H2 => wipe σ2 vs = wipe σ vs ∧ tt σ2 H2 fun b H3 =>
    if b = true then tk σ2 H3 fun y H4 => tv σ2 H4 fun z H5 => ∃ H6, DPut H5 D y z H6 ∧ Nx H6 else Nx H3)
theorem new_ok {P : Program} {w : World} {H : Hp} (t : Bool) (h : Heap) (big : sysModules < h.objs.size) : ObjOk P w H (h.push { cls := .type "dict", data := .dict #[] }) h.objs.size (newD t) := by
  cases t
  · exact dk_empty h big
  · exact dt_empty h big
theorem pe_dcG {kx vx tg iter : Expr} {ifs : List Expr} {scope : Scope} {own : List (Str × Nat)} {pos : Pos} {wi : TI} {g : TG} {tt : TT} {tk tv : TE} (t : Bool) (hu : X.A.units + 1 < cLine) (hc : X.calm = true) (hN : X.N.Nodup) (hi : PI X tg iter wi) (ok : BlkOk X.N X.env.scope scope own)
    (hg : ∀ (s : Shared) (H : Hp) (C : Addr) (cl : List (Str × Addr)) (fp : List Addr), PG (X.blk s H scope (compEnvC scope cl C X.env) fp) tg g)
    (ht : ∀ (s : Shared) (H : Hp) (C : Addr) (cl : List (Str × Addr)) (fp : List Addr), PTs (X.blk s H scope (compEnvC scope cl C X.env) fp) ifs tt)
    (hk : ∀ (s : Shared) (H : Hp) (C : Addr) (cl : List (Str × Addr)) (fp : List Addr), PE (X.blk s H scope (compEnvC scope cl C X.env) fp) kx tk)
    (hv : ∀ (s : Shared) (H : Hp) (C : Addr) (cl : List (Str × Addr)) (fp : List Addr), PE (X.blk s H scope (compEnvC scope cl C X.env) fp) vx tv) (hs : ∀ x, foldedSetIterable iter X.env x = pure x := by intro _; rfl) :
    PE X (.DictComp kx vx [⟨tg, iter, ifs, 0⟩] scope pos) (tDcG t wi g tt tk tv (own.map (·.2))) := by
  refine ⟨fun pins s σ H Q I h => ?_⟩
  rw [arm_eval_DictComp]
  have cells : ∀ y ∈ scope.names, y.2 = .free → ∃ c, X.env.cells.lookup y.1 = some c := fun y hy e => (ok.free y hy e).elim (fun z => I.ok.has _ (.inl z)) fun z => I.ok.has _ (.inr z)
  refine wpAny_comprehension_free rfl hs (closure_ok cells) ok.kind (fun y hy e => by rw [ok.uniq y hy, e]) (thn (hi.run pins s σ H _ I h) fun xv s1 hx => thn hx fun itv s2 h2 => ?_)
  obtain ⟨it, fp, tn, J, H2, rfl, I2, T, t0, fr, q⟩ := h2
  refine wpAny_newObj_type (newEnv_comp ?_)
  have free2 : H2 s2.heap.objs.size = none := I2.hok.fresh (Nat.le_refl _)
  obtain ⟨W, ⟨m0, w0⟩, turn⟩ := q s2.heap.objs.size free2
  have low : ∀ b ∈ fp, b < s2.heap.objs.size := fun b hb => by
    obtain ⟨o, e, _⟩ := T.obj _ _ t0 b hb
    exact Heap.lt_size e
  generalize hD : s2.heap.objs.size = D at *
  generalize h3 : ({ s2 with heap := s2.heap.push { cls := .type "dict", data := .dict #[] } } : Shared) = s3
  have e3 : s3.heap = s2.heap.push { cls := .type "dict", data := .dict #[] } := by rw [← h3]
  generalize hH : upd H2 D (newD t) = H3 at w0
  have I3 : Inv X pins σ H3 s3 := by
    rw [← h3, ← hH]
    exact I2.laid (t' := s2.toks) (fun b o e => Heap.get?_push_of_some _ e) (Nat.le_of_eq hD) (hD ▸ new_ok t s2.heap I2.big)
  have far : ∀ b ∈ fp, FpOk X pins H3 b ∧ b < s3.heap.objs.size := fun b hb => by
    have lt := low b hb
    refine ⟨⟨?_, (fr b hb).2⟩, by rw [e3, Heap.size_push, hD]; exact Nat.lt_succ_of_lt lt⟩
    rw [← hH, upd_ne (Nat.ne_of_lt lt)]
    exact (fr b hb).1
  have gone : ∀ b ∈ fp, H3 b = none := fun b hb => (far b hb).1.1
  have I4 := block_start I3 ok hN far
  generalize hC : compEnvC scope (cellsFrom (s3.heap.objs.size + 1) scope.names (cloFrom X.env.cells scope.names [])) s3.heap.objs.size X.env = C at I4
  have kg : PG (X.blk s3 H3 scope C fp) tg g := hC ▸ hg s3 H3 _ _ fp
  have kt : PTs (X.blk s3 H3 scope C fp) ifs tt := hC ▸ ht s3 H3 _ _ fp
  have kk : PE (X.blk s3 H3 scope C fp) kx tk := hC ▸ hk s3 H3 _ _ fp
  have kv : PE (X.blk s3 H3 scope C fp) vx tv := hC ▸ hv s3 H3 _ _ fp
  have cl : C.locals = s3.heap.objs.size := by rw [← hC]; rfl
  show codeAny _ _ (.compStart (.DictComp kx vx [⟨tg, iter, ifs, 0⟩] scope pos) 0 (.ref it) (.ref D) (compEnvC scope (cellsFrom (s3.heap.objs.size + 1) scope.names (cloFrom X.env.cells scope.names [])) s3.heap.objs.size X.env)) (compPost (model X.prog X.w) X.A X.xe none (EP X pins σ Q) (.ref D) s3.heap.objs.size) { s3 with heap := pushCells (s3.heap.push { cls := .type "dict", data := .dict #[] }) scope.names }
  rw [hC]
  generalize h4 : ({ s3 with heap := pushCells (s3.heap.push { cls := .type "dict", data := .dict #[] }) scope.names } : Shared) = s4 at I4 ⊢
  have t4 : tn 0 s4.heap := T.keep _ _ _ t0 fun b _ o e => by rw [← h4]; exact pushCells_keeps _ _ _ _ (Heap.get?_push_of_some _ (by rw [e3]; exact Heap.get?_push_of_some _ e))
  have still : ∀ {σ' : L2.St} {H' : Hp} {s' : Shared}, Inv (X.blk s3 H3 scope C fp) [] σ' H' s' → (∀ b ∈ fp, H' b = none) → ∀ b ∈ fp, FpOk (X.blk s3 H3 scope C fp) [] H' b := fun {σ' H' s'} J' n b hb =>
    ⟨n b hb, (J'.ok.exf b hb).1, J'.ok.exfs b hb, .inl hb, fun x c e => (J'.ok.exf b hb).2 x c e, fun p hp => absurd (show p ∈ ([] : List (Addr × Obj)) ++ [] from hp) (by simp)⟩
  have body : codeAny (model X.prog X.w) X.A (.compLoop (.DictComp kx vx [⟨tg, iter, ifs, 0⟩] scope pos) 0 (.ref it) (.ref D) C) (compPost (model X.prog X.w) X.A X.xe none (EP X pins σ Q) (.ref D) s3.heap.objs.size) s4 := by
    refine compLoop_anyD (fun n s' => ∃ i H', Inv (X.blk s3 H3 scope C fp) [] (wipe σ (own.map (·.2))) H' s' ∧ tn i s'.heap ∧ (∀ b ∈ fp, H' b = none) ∧ W i n H') ?_ m0 ⟨0, H3, I4, t4, gone, w0⟩
    rintro n s5 ⟨i, H5, I5, t5, n5, w5⟩
    rcases turn i n H5 w5 with ⟨stop, fin⟩ | ⟨go, Nx, next, step⟩
    · refine thnF (T.done (X.blk s3 H3 scope C fp) rfl rfl rfl hc i [] s5 _ H5 (fun _ _ => False) I5 (still I5 n5) t5 stop) fun r s6 ⟨er, I6⟩ => ?_
      subst er
      have I7 : Inv X pins σ H5 s6 := I3.call' (ch := fp) I6.os I6.base I6.hok I6.bare fun b hb => let z := (far b hb).1; ⟨z.2.2.2.1, z.2.1, z.2.2.2.2.1, z.2.2.2.2.2⟩
      have bare : H5 s3.heap.objs.size = none := cl ▸ (show H5 C.locals = none from I6.free)
      obtain ⟨mm, hm, _⟩ := I6.loc
      have hm : s6.heap.Ns s3.heap.objs.size mm := cl ▸ (show s6.heap.Ns C.locals mm from hm)
      obtain ⟨f0, f1, f2, f3, f4, f5⟩ := I3.fpOk (H' := H5) (Nat.le_refl _) bare
      exact ⟨mm, hm, fun h'' sb => ⟨.ref D, H5, I7.turned (t' := s6.toks) (fun b o hb e => (sb.2 b hb).trans e) f0 f1 f3 f4 f5, rfl, fin⟩⟩
    · refine thnF (T.item (X.blk s3 H3 scope C fp) rfl rfl rfl hc i [] s5 _ H5 (fun _ _ => False) I5 (still I5 n5) t5 go) fun r s6 ⟨u, er, h6⟩ => ?_
      subst er
      refine thnF h6 fun _ s7 ⟨x, H7, I7, r7, y7, t7, n7⟩ => ?_
      refine thnF (kg.run _ s7 _ H7 x u _ (I7.pinned (still I7 n7) (T.obj _ _ t7)) r7 (step x H7 y7)) fun _ s8 ⟨σ8, H8, I8, hw8, q8⟩ => ?_
      refine thnF (kt.run _ s8 σ8 H8 _ I8 q8) fun b s9 ⟨H9, I9, q9⟩ => ?_
      have fin : ∀ {s' : Shared} {H' : Hp}, Inv (X.blk s3 H3 scope C fp) ([] ++ pinsAt fp s7.heap) σ8 H' s' → Nx H' → ∃ m, m < n ∧ ∃ i H', Inv (X.blk s3 H3 scope C fp) [] (wipe σ (own.map (·.2))) H' s' ∧ tn i s'.heap ∧ (∀ b ∈ fp, H' b = none) ∧ W i m H' := fun {s' H'} J' nx => by
        obtain ⟨m', lt, w'⟩ := next H' nx
        have pins' : ∀ b ∈ fp, ∀ o, s7.heap.get? b = some o → s'.heap.get? b = some o ∧ H' b = none := fun b hb o e =>
          let z := J'.pin (b, o) (List.mem_append_right _ (List.mem_append_right _ (mem_pinsAt hb e))); ⟨z.1, z.2.1⟩
        refine ⟨m', lt, i + 1, H', (J'.unpinned (pins := [])).weak (by rw [← hw8, wipe_length]) (fun j v e => by rw [← hw8] at e; exact (wipe_some e).1), T.keep _ _ _ t7 fun b hb o e => (pins' b hb o e).1, fun b hb => ?_, w'⟩
        obtain ⟨o, e, _⟩ := T.obj _ _ t7 b hb
        exact (pins' b hb o e).2
      cases b with
      | false => exact fin I9 q9
      | true =>
        refine thnF (kk.run _ s9 σ8 H9 _ I9 q9) fun z s10 ⟨yk, H10, I10, r10, q10⟩ => ?_
        refine thnF (kv.run _ s10 σ8 H10 _ I10 q10) fun z2 s11 ⟨yv, H11, I11, r11, H12, put, nx⟩ => ?_
        exact lay_entry (X := X.blk s3 H3 scope C fp) hu I11 put r10 r11 fun s12 I12 => fin I12 nx
  exact codeAny_compStart_dict body (T.self X.A 0 _ _ _ t4 body)
end
end UY

set_option Elab.async false
set_option linter.all false
set_option maxRecDepth 100000
set_option maxHeartbeats 4000000
set_option autoImplicit false
namespace UX
open PySem PySem.Spec PyProof.Rows L2 UY
open EL (Ex RB BOk Bn TK)
def dcM (wt : U → M Bool) (wk wv : U → M U) : List U → U → M U
  | [], d => .ret d
  | x :: xs, d => .bind (wt x) fun b => if b = true then .bind (wk x) fun k => .bind (wv x) fun v => .bind (.o (putU d k v)) fun d' => dcM wt wk wv xs d' else dcM wt wk wv xs d
def empU (t : Bool) : U := if t = true then .dcT [] [] else .dct [] []
def dcW (t : Bool) (wl : M (List U)) (wt : U → M Bool) (wk wv : U → M U) : M U := .bind wl fun us => dcM wt wk wv us (empU t)
section
variable {F : Fr} {os : Os} {as as' : SA} {st st' : Sto} {γ : List (U × V)} {H H' : Hp} {σ : L2.St} {δ : Dl}
structure DS (F : Fr) (os : Os) (k0 : Nat) (D : Addr) (as : SA) (st : Sto) (γ : List (U × V)) (H : Hp) (σ : L2.St) (δ : Dl) (d : U) : Prop where
  S : SDo F ((k0, [D]) :: os) as st γ H σ δ
  a : (∃ ks us vs, d = .dct ks us ∧ H D = some (.dK (ks.zip vs)) ∧ ks.length = us.length ∧ imAll F.G (rts as) (ban F ((k0, [D]) :: os) as) us vs H) ∨
    ∃ ks us vs, d = .dcT ks us ∧ H D = some (.dT (ks.zip vs)) ∧ ks.length = us.length ∧ imAll F.G (rts as) (ban F ((k0, [D]) :: os) as) us vs H
variable {k0 : Nat} {D : Addr} {d : U}
theorem DS.go (l : DS F os k0 D as st γ H σ δ d) {σ' : L2.St} {δ' : Dl} (g : Go as as' H H') (S : SDo F ((k0, [D]) :: os) as' st' γ H' σ' δ') : DS F os k0 D as' st' γ H' σ' δ' d := by
  have keep : ∀ o, H D = some o → H' D = some o := fun o e => g.rb.keep _ _ (fun m => (List.nodup_append.mp l.S.nd).2.2 D (List.mem_append_left _ List.mem_cons_self) D m rfl) e
  refine ⟨S, ?_⟩
  rcases l.a with ⟨ks, us, vs, e, h, le, q⟩ | ⟨ks, us, vs, e, h, le, q⟩
  · exact .inl ⟨ks, us, vs, e, keep _ h, le, imAll_go g q⟩
  · exact .inr ⟨ks, us, vs, e, keep _ h, le, imAll_go g q⟩
theorem DS.put (l : DS F os k0 D as st γ H σ δ d) (hk : δ.length ≤ k0) {k x d' : U} {y v : V} (e : putU d k x = some d') (pk : im F.G (rts as) (ban F ((k0, [D]) :: os) as) k y H) (px : im F.G (rts as) (ban F ((k0, [D]) :: os) as) x v H) :
    ∃ o, DPut H D y v (upd H D o) ∧ DS F os k0 D as st γ (upd H D o) σ δ d' := by
  have upS : ∀ {o o' : HO}, H D = some o → (∀ xs, o ≠ .tup xs) → (∀ y u, o ≠ .frz y u) → SDo F ((k0, [D]) :: os) as st γ (upd H D o') σ δ ∧ ∀ {us : List U} {vs : List V}, imAll F.G (rts as) (ban F ((k0, [D]) :: os) as) us vs H → imAll F.G (rts as) (ban F ((k0, [D]) :: os) as) us vs (upd H D o') := fun {o o'} eD nt nf => by
    have c : Chg F ((k0, [D]) :: os) as H (upd H D o') k0 [D] [D] D := chg_same List.mem_cons_self List.mem_cons_self l.S eD nt nf
    have S := l.S.mut c (x := none) (fun _ z => nomatch z)
    have so := setOs_same l.S.ix (List.mem_cons_self (a := (k0, [D])) (l := os))
    rw [so] at S
    rw [List.set_eq_of_length_le hk] at S
    exact ⟨S, fun h => by have := c.imAll h; rw [so] at this; exact this⟩
  rcases l.a with ⟨ks, us, vs, rfl, eD, le, q⟩ | ⟨ks, us, vs, rfl, eD, le, q⟩
  · simp only [putU] at e
    split at e
    case isFalse => cases e
    rename_i hl
    cases ek : keyU k with
    | none => rw [ek] at e; cases e
    | some key =>
      rw [ek] at e
      simp only at e
      have ey := im_key ek pk
      subst ey
      have hz : (ks.zip vs).length < sizeLine := by rw [List.length_zip]; omega
      obtain ⟨ks', us', e5, rfl⟩ : ∃ ks' us', (match idxK key ks with | some j => if ks.Nodup then some (ks, us.set j x) else none | none => some (ks ++ [key], us ++ [x])) = some (ks', us') ∧ d' = .dct ks' us' := by
        cases ei : idxK key ks with
        | some j =>
          rw [ei] at e
          simp only at e ⊢
          split at e
          · rename_i nd; cases e; exact ⟨_, _, if_pos nd, rfl⟩
          · cases e
        | none => rw [ei] at e; cases e; exact ⟨_, _, rfl, rfl⟩
      obtain ⟨vs', p1, p2, p3⟩ := put_zip le q px e5
      obtain ⟨S, up⟩ := upS (o' := .dK (putK (ks.zip vs) key v)) eD (fun _ z => nomatch z) (fun _ _ z => nomatch z)
      exact ⟨_, DPut.k eD hz, S, .inl ⟨ks', us', vs', rfl, by rw [upd_same, p1], p2, up p3⟩⟩
  · simp only [putU] at e
    split at e
    case isFalse => cases e
    rename_i hl
    cases ek : tkeyU k with
    | none => rw [ek] at e; cases e
    | some key =>
      rw [ek] at e
      simp only at e
      obtain ⟨b, ey, hb⟩ := im_tkey ek pk
      subst ey
      have hz : (ks.zip vs).length < sizeLine := by rw [List.length_zip]; omega
      obtain ⟨ks', us', e5, rfl⟩ : ∃ ks' us', (match idxK key ks with | some j => if ks.Nodup then some (ks, us.set j x) else none | none => some (ks ++ [key], us ++ [x])) = some (ks', us') ∧ d' = .dcT ks' us' := by
        cases ei : idxK key ks with
        | some j =>
          rw [ei] at e
          simp only at e ⊢
          split at e
          · rename_i nd; cases e; exact ⟨_, _, if_pos nd, rfl⟩
          · cases e
        | none => rw [ei] at e; cases e; exact ⟨_, _, rfl, rfl⟩
      obtain ⟨vs', p1, p2, p3⟩ := put_zip le q px e5
      obtain ⟨S, up⟩ := upS (o' := .dT (putK (ks.zip vs) key v)) eD (fun _ z => nomatch z) (fun _ _ z => nomatch z)
      exact ⟨_, DPut.t eD hb hz, S, .inr ⟨ks', us', vs', rfl, by rw [upd_same, p1], p2, up p3⟩⟩
end
section
variable {F : Fr} {δ : Dl} {wi : TI} {g : TG} {tt : TT} {tk tv : TE} {vs : List Nat} {wl : M (List U)}
theorem dc_at {t : Bool} {wt : U → M Bool} {wk wv : U → M U} (no : noOwn δ vs = true) {os : Os} {as : SA} {st : Sto} {γ : List (U × V)} {σ : L2.St} {H : Hp} (S : SDo F os as st γ H σ δ)
    (hs : ∀ us st1, wl st = some (.ok us, st1) → ∀ Q : It → Hp → Prop, (∀ J H' as' gh, Go as as' H H' → SDo F os as' st1 (gh ++ (ghv σ δ vs ++ γ)) H' σ δ → WalkU F J us gh → Q J H') → wi σ H Q)
    (hb : ∀ u st r, wt u st = some r → ∃ δ', TgOk F g vs (wipD δ vs) u δ' ∧ EvT F tt δ' (wt u) ∧ EvW F tk δ' (wk u) ∧ EvW F tv δ' (wv u)) {c : U} {st' : Sto} (q : dcW t wl wt wk wv st = some (.ok c, st')) {QQ : VK}
    (k : ∀ v H' as' A, Go as as' H H' → (∀ k, k ∉ os.map (·.1) → SDo F ((k, A) :: os) as' st' γ H' σ δ) → ownD F.G (rts as') (ban F ((0, A) :: os) as') (.dct .leaf) c v H' A → (∀ a ∈ A, H a = none) → QQ v H') : tDcG t wi g tt tk tv vs σ H QQ := by
  obtain ⟨us, st1, qs, qr⟩ := M.bind_inv q
  refine hs us st1 qs _ fun J H1 as1 gh g1 S1 W D hD => ?_
  obtain ⟨k0, hk0, hkl⟩ := nodup_fresh (os.map (·.1)) δ.length
  have S2 := S1.grow hk0 hD (Ex.new (o := newD t) hD) (by rw [upd_same]; exact fun z => nomatch z)
  have hD0 : H D = none := g1.fresh hD
  have hkw : (wipD δ vs).length ≤ k0 := by rw [wipD_len]; exact hkl
  refine ⟨fun i m Hc => m = us.length - i ∧ i ≤ us.length ∧ ∃ as2 st2 d, Go as as2 H Hc ∧ DS F os k0 D as2 st2 (gh ++ (ghv σ δ vs ++ γ)) Hc (L2.wipe σ vs) (wipD δ vs) d ∧ dcM wt wk wv (us.drop i) d st2 = some (.ok c, st'),
    ⟨us.length, by simp, Nat.zero_le _, as1, st1, empU t, go_new (H1 := H) g1 hD0, ⟨S2.wipe vs, ?_⟩, by rw [List.drop_zero]; exact qr⟩, ?_⟩
  · cases t
    · exact .inl ⟨[], [], [], rfl, upd_same, rfl, rfl⟩
    · exact .inr ⟨[], [], [], rfl, upd_same, rfl, rfl⟩
  rintro i m Hc ⟨rfl, hi, as2, st2, d, g2, l2, q2⟩
  by_cases hlt : i < us.length
  · right
    refine ⟨W.goes i _ as2 st2 _ _ _ Hc hlt l2.S, fun H' => ∃ m', m' < us.length - i ∧ m' = us.length - (i + 1) ∧ i + 1 ≤ us.length ∧ ∃ as2 st2 d, Go as as2 H H' ∧ DS F os k0 D as2 st2 (gh ++ (ghv σ δ vs ++ γ)) H' (L2.wipe σ vs) (wipD δ vs) d ∧ dcM wt wk wv (us.drop (i + 1)) d st2 = some (.ok c, st'), fun H' ⟨m', h1, h2, h3⟩ => ⟨m', h1, h2, h3⟩, fun x H' y => ?_⟩
    rw [List.drop_eq_getElem_cons hlt, dcM] at q2
    obtain ⟨b, st3, q3, q2⟩ := M.bind_inv q2
    obtain ⟨δ', tg, ht, hk, hv⟩ := hb us[i] st2 _ q3
    obtain ⟨ex, px⟩ := W.yields i _ as2 st2 _ _ _ x Hc H' us[i] (List.getElem?_eq_getElem hlt) l2.S y
    have gx : Go as2 as2 Hc H' := Go.of_ex ex
    have l3 := l2.go gx (l2.S.ex ex)
    refine tg.2 _ as2 st2 _ H' _ x l3.S px _ fun σ2 wq S3 => ⟨by rw [wq, wipe_idem], ?_⟩
    have back : ∀ {as4 : SA} {st4 : Sto} {H4 : Hp}, SDo F ((k0, [D]) :: os) as4 st4 (gh ++ (ghv σ δ vs ++ γ)) H4 σ2 δ' → SDo F ((k0, [D]) :: os) as4 st4 (gh ++ (ghv σ δ vs ++ γ)) H4 (L2.wipe σ vs) (wipD δ vs) := fun S4 => by
      have := S4.wipe vs
      rw [wq, wipe_idem, tg.1, wipD_idem] at this
      exact this
    refine ht _ as2 st2 _ σ2 H' b st3 S3 q3 _ fun H3 as3 g3 S4 => ?_
    cases b with
    | false => exact ⟨us.length - (i + 1), by omega, rfl, hlt, as3, st3, d, (g2.trans gx).trans g3, l3.go g3 (back S4), q2⟩
    | true =>
      simp only [if_true] at q2 ⊢
      obtain ⟨ku, st5, q5, q2⟩ := M.bind_inv q2
      obtain ⟨xu, st6, q6, q2⟩ := M.bind_inv q2
      obtain ⟨d', st7, q7, q8⟩ := M.bind_inv q2
      obtain ⟨ed, rfl⟩ := M.o_inv q7
      refine hk _ as3 st3 _ σ2 H3 ku st5 S4 q5 _ fun y H5 as5 g5 S5 py => ?_
      have S5' : SDo F ((k0, [D]) :: os) as5 st5 ([(ku, y)] ++ (gh ++ (ghv σ δ vs ++ γ))) H5 σ2 δ' := S5.ghost fun z m => by rw [List.mem_singleton] at m; rw [m]; exact py
      refine hv _ as5 st5 _ σ2 H5 xu _ S5' q6 _ fun z H6 as6 g6 S6 pz => ?_
      obtain ⟨o, put, l7⟩ := (((l3.go g3 (back S4)).go g5 (back S5)).go g6 (back (S6.unghost (g := [(ku, y)])))).put hkw ed (S6.gh (ku, y) List.mem_cons_self) pz
      exact ⟨_, put, us.length - (i + 1), by omega, rfl, hlt, as6, _, d', go_new (H1 := H) ((((g2.trans gx).trans g3).trans g5).trans g6) hD0, l7, q8⟩
  · left
    have e : i = us.length := by omega
    subst e
    rw [List.drop_length] at q2
    cases q2
    refine ⟨W.stops _ as2 _ _ _ _ Hc l2.S, ?_⟩
    refine k _ Hc as2 [D] g2 (fun k hk => ?_) ?_ fun a m => by rw [List.mem_singleton] at m; rw [m]; exact hD0
    · have : SDo F ((k0, [D]) :: os) as2 _ γ Hc σ δ := SDo.restore (g := []) (vs := vs) S no l2.S.unghost
      exact this.reix hkl hk
    · rcases l2.a with ⟨ks, us', vs', rfl, h, le, q⟩ | ⟨ks, us', vs', rfl, h, le, q⟩
      · exact own_dct.mpr ⟨D, vs', rfl, rfl, h, le, q⟩
      · exact own_dcT.mpr ⟨D, vs', rfl, rfl, h, le, q⟩
theorem en_dc {t : Bool} {wt : U → M Bool} {wk wv : U → M U} (no : noOwn δ vs = true) (hs : Src F wi δ wl)
    (hb : ∀ u st r, wt u st = some r → ∃ δ', TgOk F g vs (wipD δ vs) u δ' ∧ EvT F tt δ' (wt u) ∧ EvW F tk δ' (wk u) ∧ EvW F tv δ' (wv u)) : EvN F (.dct .leaf) (tDcG t wi g tt tk tv vs) δ (dcW t wl wt wk wv) := fun os as st γ σ H c st' S q QQ k =>
  dc_at no S (fun us st1 qs Q kk => hs os as st (ghv σ δ vs ++ γ) σ H us st1 (S.ghost (ghv_ok S vs)) qs _ fun J H1 as1 gh g1 S1 W => kk J H1 as1 gh g1 S1 W) hb q k
end
end UX

set_option Elab.async false
set_option linter.all false
set_option maxRecDepth 100000
set_option maxHeartbeats 4000000
set_option autoImplicit false
namespace UY
open PySem PySem.Spec PyProof.Rows L2
section
variable {X : Cx}
end
end UY
namespace UX
open PySem PySem.Spec PyProof.Rows L2 UY
open EL (Ex RB BOk Bn TK)
section
variable {F : Fr} {δ : Dl} {ta tb : TE} {wa wb : M U}
end
end UX

set_option Elab.async false
set_option linter.all false
set_option maxRecDepth 100000
set_option maxHeartbeats 4000000
set_option autoImplicit false
namespace UY
open PySem PySem.Spec PyProof.Rows L2
section
variable {X : Cx}
end
end UY

set_option Elab.async false
set_option linter.all false
set_option maxRecDepth 100000
set_option maxHeartbeats 4000000
set_option autoImplicit false
namespace UX
open PySem PySem.Spec PyProof.Rows L2 UY
open EL (Ex RB BOk Bn TK)
open RT
section
variable {F : Fr} {δ : Dl} {td ty te : TE} {wd wk w : M U}
end
section
variable {G : Cxt} {rs : List Addr} {B : Bn} {H : Hp}
end
section
variable {F : Fr} {S L : Type} {δ : Dl} {δn : S → Dl} {δl : L → Dl} {t2 : TS} {i : Nat} {tx : TE}
end
end UX

set_option Elab.async false
set_option linter.all false
set_option maxRecDepth 100000
set_option maxHeartbeats 4000000
set_option autoImplicit false
namespace UY
open PySem PySem.Spec PyProof.Rows L2
section
variable {X : Cx} {e : Expr} {t : TE}
end
end UY
namespace UX
open PySem PySem.Spec PyProof.Rows L2 UY
open EL (Ex RB BOk Bn TK)
section
variable {F : Fr} {os : Os} {as as' : SA} {st st' : Sto} {γ : List (U × V)} {H H' : Hp} {σ : L2.St} {δ : Dl} {d : Addr} {u0 : HO} {od : Obj}
end
section
variable {F : Fr} {δ : Dl} {g : TG} {tt : TT} {td te : TE} {vs : List Nat}
end
end UX

set_option Elab.async false
set_option linter.all false
set_option maxRecDepth 100000
set_option maxHeartbeats 4000000
set_option autoImplicit false
namespace UY
open PySem PySem.Spec PyProof.Rows L2
end UY

set_option Elab.async false
set_option linter.all false
set_option maxRecDepth 100000
set_option maxHeartbeats 4000000
set_option autoImplicit false
namespace UX
open PySem PySem.Spec PyProof.Rows L2 UY
open EL (Ex RB BOk Bn TK)
section
variable {F : Fr} {δ : Dl} {ta tb : TE} {wa wb : M U}
end
end UX

set_option Elab.async false
set_option linter.all false
set_option maxRecDepth 100000
set_option maxHeartbeats 4000000
set_option autoImplicit false
namespace UX
open PySem PySem.Spec PyProof.Rows L2
open EL (Ex RB BOk Bn TK FnG okG rm66)
section
variable {prog : Program} {w : World} {A : Around} {E : Value → Shared → Prop} {s : Shared} {K : PySem.W.Frag} {x C L f : Addr} {h₀ : Heap} {m : Str → Option Value} {ox : Obj} {od : Option Obj} {b tb : Value}
end
section
variable {X : Cx} {CX : CXT} {k : Nat} {f C : Addr} {fd : FuncData} {ps : List Str} {sp : Sp} {E : XK}
end
section
variable {F : Fr} {δ : Dl} {ta tb : TE} {wa wb : M U} {E : XK} {f : List U → M U} {c : Str} {g : Bool → Bool}
end
section
variable {X : Cx} {CX : CXT} {k : Nat} {f C : Addr} {fd : FuncData} {ps : List Str} {sp : Sp} {E : XK}
end
section
variable {F : Fr} {δ : Dl} {ta : TE} {wa : M U} {E : XK} {f : List U → M U} {c : Str}
end
end UX

set_option Elab.async false
set_option linter.all false
set_option maxRecDepth 100000
set_option maxHeartbeats 4000000
set_option autoImplicit false
namespace UX
open PySem PySem.Spec PyProof.Rows L2
open EL (Ex RB BOk Bn TK)
def okT : List String := ["NoneType", "bool", "int", "str", "tuple", "list", "dict"]
inductive FaX where
  | spec (c m : Str) (id : String)
  | obj (c : Str)
  | ins (c : Str)
  | excI (c : Str)
  | kit (c d : Str) (b : Bool)
  | kitT (c : Str) (t : String) (b : Bool)
  | kitA (c : Str) (ds : List Str) (b : Bool)
def FaX.ok (K : PySem.W.Frag) : FaX → Bool
  | .spec c m id => He.eqO (PySem.W.findIn K (.ref (He.ga K c)) m) (some (some (.builtin id)))
  | .obj c => decide (PySem.W.mroIn K (He.ga K c) (.type "object") = some true)
  | .ins c => He.eqO (PySem.W.findIn K (.ref (He.ga K c)) "__class__") (some (some (.builtin "object.__class__"))) && (He.eqO (PySem.W.specialIn K (.builtin "object.__class__") "__get__") (some (some (.builtin "getset_descriptor.__get__"))) && (decide (PySem.W.takesIn K (.builtin "object.__class__") = some true) && (decide (PySem.W.mroIn K (He.ga K c) (.type "object") = some true) && ((PySem.W.typeIn K (.ref (He.ga K c)) == some (.type "type")) && okT.all fun T => PySem.W.mroIn K (He.ga K c) (.type T) == some false))))
  | .excI c => He.eqO (PySem.W.findIn K (.ref (He.ga K c)) "__getattribute__") (some (some (.builtin "BaseException.__getattribute__"))) && (He.eqO (PySem.W.findIn K (.ref (He.ga K c)) "__getattr__") (some none) && (decide (PySem.W.subIn K (.ref (He.ga K c)) (.type "BaseException") = some true) && (PySem.W.hasDictIn K (He.ga K c) && (He.eqO (PySem.W.findIn K (.ref (He.ga K c)) "__class__") (some (some (.builtin "object.__class__"))) && (He.eqO (PySem.W.specialIn K (.builtin "object.__class__") "__get__") (some (some (.builtin "getset_descriptor.__get__"))) && (decide (PySem.W.takesIn K (.builtin "object.__class__") = some true) && decide (PySem.W.mroIn K (He.ga K c) (.type "object") = some true)))))))
  | .kit c d b => decide (PySem.W.kitOne K (.ref (He.ga K c)) (.ref (He.ga K d)) = some b)
  | .kitT c t b => decide (PySem.W.kitOne K (.ref (He.ga K c)) (.type t) = some b)
  | .kitA c ds b => decide (PySem.W.kitAny K (.ref (He.ga K c)) (ds.map fun d => .ref (He.ga K d)) = some b)
def obsV (fa : List He.Fa) (fn : List He.DefD) (ts : List He.Tab) (vs : List Vls) (xs : List FaX) (K : PySem.W.Frag) : AlU := (He.obsT fa fn ts K, (vs.all fun q => He.valsB K (q.1 K) q.2) && xs.all fun x => x.ok K)
def SaysV (fa : List He.Fa) (fn : List He.DefD) (ts : List He.Tab) (vs : List Vls) (xs : List FaX) (w : World) (K : PySem.W.Frag) : Prop := obsV fa fn ts vs xs K = valU fn ts w
section
variable {fa : List He.Fa} {fn : List He.DefD} {ts : List He.Tab} {vs : List Vls} {xs : List FaX} {w : World} {K : PySem.W.Frag}
theorem SaysV.u (c : SaysV fa fn ts vs xs w K) : SaysU fa fn ts vs w K := by
  have e1 : He.obsT fa fn ts K = He.valT fn ts w := congrArg (fun z : AlU => z.1) c
  have e2 : ((vs.all fun q => He.valsB K (q.1 K) q.2) && xs.all fun x => x.ok K) = true := congrArg (fun z : AlU => z.2) c
  show ((_, _) : AlU) = (_, _)
  rw [e1, (Bool.and_eq_true_iff.mp e2).1]
theorem SaysV.x (c : SaysV fa fn ts vs xs w K) (i : Nat) {x : FaX} (h : xs[i]? = some x) : x.ok K = true := by
  have e2 : ((vs.all fun q => He.valsB K (q.1 K) q.2) && xs.all fun x => x.ok K) = true := congrArg (fun z : AlU => z.2) c
  exact List.all_eq_true.mp (Bool.and_eq_true_iff.mp e2).2 x (List.mem_of_getElem? h)
end
end UX

set_option Elab.async false
set_option linter.all false
set_option maxRecDepth 100000
set_option maxHeartbeats 4000000
set_option autoImplicit false
namespace UX
open PySem PySem.Spec PyProof.Rows L2
open EL (Ex RB BOk Bn TK)
section
variable {F : Fr} {δ : Dl} {ta tk : TA} {wa wk : M (List U)} {E : XK} {f : List U → M U} {n m : Nat}
end
structure InsF (K : PySem.W.Frag) (C : Addr) : Prop where
  cl : Cls K C
  ha : PySem.W.findIn K (.ref C) "__class__" = some (some (.builtin "object.__class__"))
  hn : PySem.W.specialIn K (.builtin "object.__class__") "__get__" = some (some (.builtin "getset_descriptor.__get__"))
  ht : PySem.W.takesIn K (.builtin "object.__class__") = some true
  hm : PySem.W.mroIn K C (.type "object") = some true
  ty : (PySem.W.typeIn K (.ref C) == some (.type "type")) = true
  nt : ∀ t ∈ okT, PySem.W.mroIn K C (.type t) = some false
section
variable {F : Fr} {δ : Dl} {ta : TE} {wa : M U} {c : Str}
end
end UX

set_option Elab.async false
set_option linter.all false
set_option maxRecDepth 100000
set_option maxHeartbeats 4000000
set_option autoImplicit false
namespace UX
open PySem PySem.Spec PyProof.Rows L2
open EL (Ex RB BOk Bn TK)
section
variable {F : Fr} {δ : Dl} {ta tb : TE} {wa wb : M U}
end
end UX

set_option Elab.async false
set_option linter.all false
set_option maxRecDepth 100000
set_option maxHeartbeats 4000000
set_option autoImplicit false
namespace UX
open PySem PySem.Spec PyProof.Rows L2
open EL (Ex RB BOk Bn TK)
structure FrA (G : Cxt) (B : Bn) (H0 : Hp) (A : List Addr) (as : SA) (st : Sto) (H : Hp) (u : U) (v : V) : Prop where
  own : ownD G (rts as) (fun a => B a ∨ a ∈ A ∨ a ∈ fl as) (.lst .leaf) u v H A
  new : ∀ a ∈ A, H0 a = none ∧ ¬ B a ∧ a ∉ fl as
  sto : StOk G (fun a => B a ∨ a ∈ A ∨ a ∈ fl as) (rts as) as st H
def frR (G : Cxt) (B : Bn) (H0 : Hp) : SA → Sto → Hp → U → V → Prop := fun as st H u v => ∃ A, FrA G B H0 A as st H u v
def spMN (G : Cxt) (f : List U → M U) : Sp := fun vs H Q _ => ∃ (B : Bn) (as : SA) (st : Sto) (us : List U) (u : U) (st' : Sto),
  BOk (ban ⟨G, B, H, as, noR⟩ [] as) H ∧ (fl as).Nodup ∧ (∀ a ∈ fl as, ¬ B a) ∧ StOk G (ban ⟨G, B, H, as, noR⟩ [] as) (rts as) as st H ∧ imAll G (rts as) (ban ⟨G, B, H, as, noR⟩ [] as) us vs H ∧ f us st = some (.ok u, st') ∧
  ∀ as' v H', Rt ⟨G, B, H, as, frR G B H⟩ as' st' H' u v → Q v H'
section
variable {F : Fr} {δ : Dl}
end
section
variable {P : Program} {w : World} {K : PySem.W.Frag} {mg : Str → Option Value} {bs : Heap} {CX : CXT} {x qu : Str} {pa : Arguments} {bo : List Stmt} {sc : Scope} {dv : List V} {kw : List (Str × V)} {f : Addr} {fd : FuncData}
end
section
variable {F : Fr} {δ : Dl} {ta : TA} {wa : M (List U)} {E : XK} {f : List U → M U}
theorem SDo.fresh {os : Os} {as as' : SA} {st st' : Sto} {γ : List (U × V)} {H H' : Hp} {σ : L2.St} {k : Nat} {A : List Addr} {u : U} {v : V} (S : SDo F os as st γ H σ δ) (g : Go as as' H H') (S2 : SDo F os as' st' γ H' σ δ)
    (r : FrA F.G (fun a => F.B a ∨ a ∈ flo os) H A as' st' H' u v) (hk : k ∉ os.map (·.1)) : SDo F ((k, A) :: os) as' st' γ H' σ δ := by
  cases u with
  | lst us => ?_
  | _ => exact r.own.elim
  obtain ⟨p, vs, ev, rfl, hp', _⟩ := own_lst.mp r.own
  obtain ⟨hp, hnB, hnf⟩ := r.new p (List.mem_singleton.mpr rfl)
  have hA : ∀ a ∈ [p], H a = none := fun a m => by rw [List.mem_singleton] at m; rw [m]; exact hp
  have sb := sub_cons (F := F) (os := os) (as := as) (k := k) hA
  have up : ∀ u v, im F.G (rts as) (ban F os as) u v H → im F.G (rts as') (ban F ((k, [p]) :: os) as') u v H' := fun u v h => im_go g (im_sub sb _ _ h)
  have tp : ∀ a xs, H a = some (.tup xs) → H' a = some (.tup xs) := fun a xs h => g.rb.tup _ _ h
  refine ⟨fun q m => up _ _ (S.gh q m), S2.rel, fun a b => ?_, ?_, List.nodup_cons.mpr ⟨hk, S2.ix⟩, fun a m => ?_, fun a z => ?_, StOk.mono (fun _ _ h => im_sub (fun a _ b => ?_) _ _ h) (fun _ _ h => h) (fun _ _ => rfl) r.sto, S2.len, fun i x e1 => ?_⟩
  · rcases ban_cons.mp b with z | z
    · rw [List.mem_singleton] at z; rw [z, hp']; exact fun z => nomatch z
    · exact S2.ok a z
  · rw [flo_cons]
    show (p :: (flo os ++ fl as')).Nodup
    refine List.nodup_cons.mpr ⟨fun m => ?_, S2.nd⟩
    rcases List.mem_append.mp m with m | m
    · exact hnB (.inr m)
    · exact hnf m
  · rw [flo_cons] at m
    rcases List.mem_append.mp m with m | m
    · rw [List.mem_singleton] at m; rw [m]; exact S.rel.fresh hp
    · exact S2.new a m
  · rw [flo_cons] at z
    rcases z with z | z
    · rcases List.mem_append.mp z with z | z
      · rw [List.mem_singleton] at z; rw [z]; exact fun b => hnB (.inl b)
      · exact S2.nb a (.inl z)
    · exact S2.nb a (.inr z)
  · rcases ban_cons.mp b with z | z
    · exact .inr (.inl z)
    · rcases z with z | z | z
      · exact .inl (.inl z)
      · exact .inl (.inr z)
      · exact .inr (.inr z)
  · obtain ⟨v, h1, h2⟩ := S.at_ i x e1
    refine ⟨v, h1, ?_⟩
    match x, h2 with
    | .im u, h2 => exact up _ _ h2
    | .raw _, h2 => exact h2
    | .own sh u, ⟨A, m, h2⟩ =>
      refine ⟨A, List.mem_cons_of_mem _ m, own_mono up tp _ _ _ _ (fun a z => ?_) h2⟩
      have hal := S.ok a (.inr (.inl (mem_flo m z)))
      cases q : H a with
      | none => exact absurd q hal
      | some o => exact g.rb.keep a o (fun b => (List.nodup_append.mp S.nd).2.2 a (mem_flo m z) a b rfl) q
theorem en_call (h : EvAW F ta δ wa) : EvN F (.lst .leaf) (tCall (spMN F.G f) [] E ta) δ (callM f wa) := fun os as st γ σ H c st' S q QQ k => by
  obtain ⟨us, st1, qa, q⟩ := M.bind_inv q
  refine h os as st γ σ H us st1 S qa _ fun vs H1 as1 g1 S1 pv => ?_
  show spMN F.G f (vs ++ []) H1 QQ E
  rw [List.append_nil]
  obtain ⟨ok, nb, e⟩ := S1.enter
  refine ⟨fun a => F.B a ∨ a ∈ flo os, as1, st1, us, c, st', ok, (List.nodup_append.mp S1.nd).2.1, nb, StOk.mono (fun _ _ h => im_sub (fun a _ b => (e a).mp b) _ _ h) (fun _ _ h => h) (fun _ _ => rfl) S1.sto, imAll_sub (fun a _ b => (e a).mp b) _ _ pv, q, fun as' v H' r => ?_⟩
  obtain ⟨S2, p⟩ := S1.leave (st' := st') (u := c) (v := v) ⟨r.rel, r.ok, r.nd, r.nb, r.sto, r.im, trivial⟩
  obtain ⟨A, fr⟩ := r.r
  refine k v H' as' A (g1.trans r.rel) (fun k hk => S1.fresh r.rel S2 fr hk) (own_mono (fun u v h => im_sub (fun a _ b => ?_) _ _ h) (fun _ _ h => h) _ _ _ _ (fun _ _ => rfl) fr.own) fun a m => g1.fresh (fr.new a m).1
  rcases ban_cons.mp b with z | z
  · exact .inr (.inl z)
  · rcases z with z | z | z
    · exact .inl (.inl z)
    · exact .inl (.inr z)
    · exact .inr (.inr z)
end
end UX

set_option Elab.async false
set_option linter.all false
set_option maxRecDepth 100000
set_option maxHeartbeats 4000000
set_option autoImplicit false
namespace UX
open PySem PySem.Spec PyProof.Rows L2
open EL (Ex RB BOk Bn TK)
section
variable {X : Cx} {CX : CXT} {k : Nat} {f C : Addr} {fd : FuncData} {ps : List Str} {sp : Sp} {E : XK}
end
section
variable {F : Fr} {δ : Dl} {ta tb : TE} {wa wb : M U} {E : XK} {f : List U → M U} {c : Str}
end
end UX

set_option Elab.async false
set_option linter.all false
set_option maxRecDepth 100000
set_option maxHeartbeats 4000000
set_option autoImplicit false
namespace GQ
open PySem PySem.SeqAt
open AutoSeq1 (wpAny_loadPart')
open MeetsSeq MeetsSeq2 MeetsSeq3 SeqRoads2
section
variable {prog : Program} {w : World} {A : Around} {R : Result → Shared → Prop}
end
section
variable {prog : Program} {w : World} {A : Around} {E : Value → Shared → Prop} {s : Shared}
end
end GQ

set_option Elab.async false
set_option linter.all false
set_option maxRecDepth 100000
set_option maxHeartbeats 4000000
set_option autoImplicit false
namespace UX
open PySem PySem.Spec PyProof.Rows L2
open EL (Ex RB BOk Bn TK)
section
variable {G : Cxt} {rs : List Addr} {B : Bn} {H : Hp}
end
section
variable {X : Cx} {CX : CXT} {k : Nat} {f C : Addr} {fd : FuncData} {ps : List Str} {sp : Sp} {E : XK}
end
section
variable {F : Fr} {δ : Dl} {ta tb : TE} {wa wb : M U} {E : XK} {f : List U → M U} {c : Str} {g : Bool → Bool}
end
end UX

set_option Elab.async false
set_option linter.all false
set_option maxRecDepth 100000
set_option maxHeartbeats 4000000
set_option autoImplicit false
namespace UX
open PySem PySem.Spec PyProof.Rows L2
open EL (Ex RB BOk Bn TK rAddU rMulU)
def addLU : U → U → Option U
  | .lst a, .lst b => if a.length + b.length ≤ sizeLine then some (.lst (a ++ b)) else none
  | _, _ => none
section
variable {F : Fr} {δ : Dl} {ta tb : TE} {wa wb : M U}
theorem own_new {os : Os} {as : SA} {st : Sto} {γ : List (U × V)} {H : Hp} {σ : L2.St} {us : List U} {vs : List V} {p : Addr} (S1 : SDo F os as st γ H σ δ) (pv : imAll F.G (rts as) (ban F os as) us vs H) (hp : H p = none) :
    ownD F.G (rts as) (ban F ((0, [p]) :: os) as) (.lst .leaf) (.lst us) (.ref p) (upd H p (.lst vs)) [p] :=
  own_lst.mpr ⟨p, vs, rfl, rfl, upd_same, imAll_st (RB.of_ex (Ex.new hp)) _ _ (imAll_sub (sub_cons fun a m => by rw [List.mem_singleton] at m; rw [m]; exact hp) _ _ pv)⟩
theorem en_addL (ha : EvR F ta δ wa) (hb : EvR F tb δ wb) : EvN F (.lst .leaf) (tOp (rAddU F.G.K) ta tb) δ (op2 addLU wa wb) := fun os as st γ σ H c st' S q QQ k => by
  obtain ⟨a, st1, qa, q⟩ := M.bind_inv q
  obtain ⟨b, st2, qb, q⟩ := M.bind_inv q
  obtain ⟨e, rfl⟩ := M.o_inv q
  refine ha os as st γ σ H a st1 S qa _ fun x H1 as1 g1 S1 px => hb os as1 st1 γ σ H1 b _ S1 qb _ fun y H2 as2 g2 S2 py => ?_
  have px := rd_go g2 px
  cases a with
  | lst us => ?_
  | _ => cases e
  cases b with
  | lst vs => ?_
  | _ => cases e
  simp only [addLU] at e
  split at e
  case isFalse => cases e
  rename_i hl
  cases e
  obtain ⟨a, xs, rfl, na, ta, qa⟩ := px
  obtain ⟨b, ys, rfl, nb, tb, qb⟩ := py
  exact .inr (.inr (.inl ⟨a, b, xs, ys, rfl, rfl, ta, tb, by rw [imAll_len qa, imAll_len qb]; exact hl, fun p hp => k _ _ as2 [p] ((g1.trans g2).trans (Go.of_ex (Ex.new hp))) (fun k hk => S2.grow hk hp (Ex.new hp) (by rw [upd_same]; exact fun z => nomatch z)) (own_new S2 (imAll_append qa qb) hp) fun a m => by rw [List.mem_singleton] at m; rw [m]; exact (g1.trans g2).fresh hp⟩))
end
end UX

set_option Elab.async false
set_option linter.all false
set_option maxRecDepth 100000
set_option maxHeartbeats 4000000
set_option autoImplicit false
namespace GQ
open PySem PySem.SeqAt PyProof.Rows
open AutoSeq1 (wpAny_loadPart')
open MeetsSeq MeetsSeq2 MeetsSeq3 SeqRoads2
section
variable {prog : Program} {w : World} {A : Around} {s : Shared} {x C dx : Addr} {K : PySem.W.Frag} {od : Option Obj} {E : Value → Shared → Prop} {Q : PySem.Fin → Shared → Prop}
end
section
variable {prog : Program} {w : World} {A : Around} {s : Shared} {x C dx f L : Addr} {K : PySem.W.Frag} {od : Option Obj} {E : Value → Shared → Prop} {Q : Value → Shared → Prop} {h₀ : Heap} {m : Str → Option Value}
end
end GQ

set_option Elab.async false
set_option linter.all false
set_option maxRecDepth 100000
set_option maxHeartbeats 4000000
set_option autoImplicit false
namespace UX
open PySem PySem.Spec PyProof.Rows L2
open EL (Ex RB BOk Bn TK)
inductive TyE (H : Hp) : V → String → Prop where
  | non : TyE H .non "NoneType"
  | bl (b : Bool) : TyE H (.bl b) "bool"
  | int (i : Int) : TyE H (.int i) "int"
  | str (x : Str) : TyE H (.str x) "str"
  | tup {a : Addr} {xs : List V} (e : H a = some (.tup xs)) : TyE H (.ref a) "tuple"
  | lst {a : Addr} {xs : List V} (e : H a = some (.lst xs)) : TyE H (.ref a) "list"
section
variable {X : Cx} {CX : CXT} {k : Nat} {f C : Addr} {fd : FuncData} {ps : List Str} {sp : Sp} {E : XK}
end
end UX

set_option Elab.async false
set_option linter.all false
set_option maxRecDepth 100000
set_option maxHeartbeats 4000000
set_option autoImplicit false
namespace GQ
open PySem PySem.SeqAt PyProof.Rows
open AutoSeq1 (wpAny_loadPart')
open MeetsSeq MeetsSeq2 MeetsSeq3 SeqRoads2
section
variable {prog : Program} {w : World} {A : Around} {R : Result → Shared → Prop}
end
section
variable {prog : Program} {w : World} {A : Around} {E : Value → Shared → Prop} {s : Shared}
end
end GQ

set_option Elab.async false
set_option linter.all false
set_option maxRecDepth 100000
set_option maxHeartbeats 4000000
set_option autoImplicit false
namespace UX
open PySem PySem.Spec PyProof.Rows L2
open EL (Ex RB BOk Bn TK)
def AskW (sp : Sp) (E : XK) (vs : List V) (H : Hp) (Q : Bool → Hp → Prop) : Prop := sp vs H (fun v H' => ∃ k, v = .bl k ∧ Q k H') E
def CmpW (K : PySem.W.Frag) (C : Addr) (sp : Sp) (E : XK) (x y : V) (H : Hp) (Q : Bool → Hp → Prop) : Prop :=
  (∃ a dx fs, x = .ref a ∧ H a = some (.ins C dx fs) ∧ ((∃ b dy gs, y = .ref b ∧ H b = some (.ins C dy gs)) ∨ (∃ t, TyX K H y (.type t) ∧ t ∈ okT)) ∧ AskW sp E [x, y] H Q) ∨
  (∃ a dx fs t, y = .ref a ∧ H a = some (.ins C dx fs) ∧ TyE H x t ∧ t ∈ okT ∧ AskW sp E [y, x] H Q)
section
variable {X : Cx} {CX : CXT} {k : Nat} {f C : Addr} {fd : FuncData} {ps : List Str} {sp : Sp} {E : XK}
theorem CmpW.kind {K : PySem.W.Frag} {x y : V} {H : Hp} {Q : Bool → Hp → Prop} (h : CmpW K C sp E x y H Q) : (∃ b, x = .ref b) ∨ ∃ t, TyE H x t := by
  rcases h with ⟨a, dx, fs, rfl, _⟩ | ⟨a, dx, fs, t, _, _, ty, _⟩
  · exact .inl ⟨_, rfl⟩
  · exact .inr ⟨t, ty⟩
end
section
variable {F : Fr} {δ : Dl} {ta tb : TE} {wa wb : M U} {E : XK} {f : List U → M U} {c : Str} {g : Bool → Bool}
end
end UX

set_option Elab.async false
set_option linter.all false
set_option maxRecDepth 100000
set_option maxHeartbeats 4000000
set_option autoImplicit false
namespace UX
open PySem PySem.Spec PyProof.Rows L2
open EL (Ex RB BOk Bn TK)
section
variable {F : Fr} {δ : Dl} {ta tb : TE} {wa wb : M U} {E : XK} {f : List U → M U} {c : Str} {g : Bool → Bool}
end
end UX

set_option Elab.async false
set_option linter.all false
set_option maxRecDepth 100000
set_option maxHeartbeats 4000000
set_option autoImplicit false
namespace UX
open PySem PySem.Spec PyProof.Rows L2 UY
open EL (Ex RB BOk Bn TK)
section
variable {F : Fr} {δ : Dl} {wi wi1 : TI} {g g1 : TG} {tt tt1 : TT} {te : TE} {vs vs1 : List Nat} {wl : M (List U)} {w : World}
end
end UX

set_option Elab.async false
set_option linter.all false
set_option maxRecDepth 100000
set_option maxHeartbeats 4000000
set_option autoImplicit false
namespace UX
open PySem PySem.Spec PyProof.Rows L2
open EL (Ex RB BOk Bn TK)
inductive EvJs (F : Fr) (δ : Dl) : List TE → List (M U) → Prop where
  | nil : EvJs F δ [] []
  | cons {t : TE} {w : M U} {ts : List TE} {ws : List (M U)} (h : EvW F t δ w) (r : EvJs F δ ts ws) : EvJs F δ (t :: ts) (w :: ws)
section
variable {F : Fr} {δ : Dl} {te : TE} {wa : M U}
end
end UX

set_option Elab.async false
set_option linter.all false
set_option maxRecDepth 100000
set_option maxHeartbeats 4000000
set_option autoImplicit false
namespace UX
open PySem PySem.Spec PyProof.Rows L2
open EL (Ex RB BOk Bn TK)
def sortN (ns : List Int) : List Int := ns.mergeSort fun a b => decide (a ≤ b)
theorem sortN_pw (ns : List Int) : (sortN ns).Pairwise (· ≤ ·) := by
  have := List.pairwise_mergeSort (le := fun a b : Int => decide (a ≤ b)) (fun a b c h1 h2 => by simp only [decide_eq_true_eq] at *; omega) (fun a b => by simp only [Bool.or_eq_true, decide_eq_true_eq]; omega) ns
  exact this.imp fun h => of_decide_eq_true h
theorem sortN_perm (ns : List Int) : (sortN ns).Perm ns := List.mergeSort_perm ns _
theorem srt_one : ∀ {a b : List Int}, a.Perm b → a.Pairwise (· ≤ ·) → b.Pairwise (· ≤ ·) → a = b
  | [], b, p, _, _ => (List.nil_perm.mp p).symm
  | x :: a, [], p, _, _ => absurd (List.perm_nil.mp p) (by simp)
  | x :: a, y :: b, p, ha, hb => by
    have h1 : x ∈ y :: b := p.mem_iff.mp List.mem_cons_self
    have h2 : y ∈ x :: a := p.mem_iff.mpr List.mem_cons_self
    have l1 : y ≤ x := by
      rcases List.mem_cons.mp h1 with e | m
      · omega
      · exact (List.pairwise_cons.mp hb).1 x m
    have l2 : x ≤ y := by
      rcases List.mem_cons.mp h2 with e | m
      · omega
      · exact (List.pairwise_cons.mp ha).1 y m
    have e : x = y := by omega
    subst e
    rw [srt_one (List.Perm.cons_inv p) (List.pairwise_cons.mp ha).2 (List.pairwise_cons.mp hb).2]
def sortNU : U → Option U
  | .lst us => match intsL us with
    | some ns => some (.lst ((sortN ns).map .int))
    | none => none
  | _ => none
theorem cr_sortNK {X : Cx} (K : PySem.W.Frag) (hK : X.K = K := by rfl) : CallR X (.builtin "sorted") (rSortedI K) := hK ▸ cr_sortedI
section
variable {F : Fr} {δ : Dl}
theorem ok_sortN : Op1Ok F (rSortedI F.G.K) sortNU := fun os as H a c x ok ha e QQ k => by
  cases a with
  | lst us => ?_
  | _ => cases e
  simp only [sortNU] at e
  cases en : intsL us with
  | none => rw [en] at e; cases e
  | some ns =>
    rw [en] at e
    cases e
    obtain ⟨l, vs, rfl, _, hl, hv⟩ := ha
    rw [intsL_eq en] at hv
    rw [imAll_intsV hv] at hl
    refine ⟨l, ns, rfl, EL.sqL_of hl, fun ns' p pm pw hp => ?_⟩
    have e1 : ns' = sortN ns := srt_one (pm.trans (sortN_perm ns).symm) pw (sortN_pw ns)
    subst e1
    exact k _ _ (Ex.new hp) ⟨p, _, rfl, fun z => ok p z hp, upd_same, imAll_ints _⟩
end
end UX

set_option Elab.async false
set_option linter.all false
set_option maxRecDepth 100000
set_option maxHeartbeats 4000000
set_option autoImplicit false
namespace UX
open PySem PySem.Spec PyProof.Rows L2
open EL (Ex RB BOk Bn TK rEqU rNeU rLtU iSeqU rLenQ)
section
variable {F : Fr} {os : Os} {as : SA} {st : Sto} {γ : List (U × V)} {H : Hp} {σ : L2.St} {δ : Dl}
end
section
variable {F : Fr} {S L : Type} {δ : Dl} {δn : S → Dl} {δl : L → Dl} {t2 : TS} {i : Nat} {Sh0 : Sh}
end
end UX

set_option Elab.async false
set_option linter.all false
set_option maxRecDepth 100000
set_option maxHeartbeats 4000000
set_option autoImplicit false
namespace UX
open PySem PySem.Spec PyProof.Rows L2 UY
open EL (Ex RB BOk Bn TK rListQ)
section
variable {G : Cxt} {rs : List Addr} {B : Bn} {H : Hp}
end
section
variable {F : Fr} {os : Os} {as : SA} {st : Sto} {γ : List (U × V)} {H : Hp} {σ : L2.St} {δ : Dl}
end
section
variable {F : Fr} {S L : Type} {δ : Dl} {wi : TI} {g : TG} {tb : TS} {wl : M (List U)} {δl : S → Dl} {δ2 : L → Dl}
end
end UX

set_option Elab.async false
set_option linter.all false
set_option maxRecDepth 100000
set_option maxHeartbeats 4000000
set_option autoImplicit false
namespace UX
open PySem PySem.Spec PyProof.Rows L2 UY
open EL (Ex RB BOk Bn TK)
section
variable {G : Cxt} {rs : List Addr} {B : Bn} {H : Hp}
end
section
variable {F : Fr}
end
end UX

set_option Elab.async false
set_option linter.all false
set_option maxRecDepth 100000
set_option maxHeartbeats 4000000
set_option autoImplicit false
namespace UX
open PySem PySem.Spec PyProof.Rows L2 UY
open EL (Ex RB BOk Bn TK)
def rLenTR : List V → Hp → VK → Prop := fun xs H Q => ∃ (p : Addr) (kvs : List (List Key × V)), xs = [.ref p] ∧ Rd H p (.dT kvs) ∧ Q (.int ((kvs.length : Nat) : Int)) H
theorem call_lenTR {X : Cx} : CallR X (.builtin "len") rLenTR := by
  intro pins s σ H xs us Q I r h
  obtain ⟨p, kvs, rfl, hp, q⟩ := h
  obtain ⟨u, rfl, rx⟩ := vals1 r
  obtain rfl : u = .ref p := rx
  obtain ⟨z, hd, ys, rel, dd⟩ := dt_rd I.hok hp
  have hl : kvs.length = ys.length := Paired.length rel
  refine call_len_dictH hd dd (by rw [← hl]; rw [sizeLine_eq] at z; omega) ?_
  rw [← hl]
  exact ⟨.int ((kvs.length : Nat) : Int), H, I.tok _, ⟨_, rfl⟩, q⟩
def lenTU : U → Option U
  | .dcT ks _ => some (.int ks.length)
  | _ => none
section
variable {F : Fr}
theorem ok_lenT : Op1Ok F rLenTR lenTU := fun os as H a c x ok h e QQ k => by
  cases a with
  | dcT ks us => ?_
  | _ => cases e
  cases e
  obtain ⟨a, vs, rfl, nb, hr, l, hv⟩ := h
  refine ⟨a, _, rfl, hr, k _ H (Ex.refl H) ?_⟩
  have : (ks.zip vs).length = ks.length := by rw [List.length_zip, ← imAll_len hv |>.symm]; omega
  rw [this]
  rfl
end
def unN {α : Type} (u : U) (k : U → U → U → M α) : M α := match u with
  | .tup [a, .tup [b, c]] => k a b c
  | _ => .fail
section
variable {F : Fr} {δ : Dl} {i j l : Nat} {vs : List Nat}
abbrev gNest (K : PySem.W.Frag) (i j l : Nat) : TG := gTup K 2 (gCons (gName i) (gCons (gTup K 2 (gCons (gName j) (gCons (gName l) gNil))) gNil))
theorem tg_nest {a b c : U} (hi : i ∈ vs) (hj : j ∈ vs) (hl : l ∈ vs) : TgOk F (gNest F.G.K i j l) vs δ (.tup [a, .tup [b, c]]) (((δ.set i (some (.im a))).set j (some (.im b))).set l (some (.im c))) := ⟨by rw [wipD_set _ _ _ _ hl, wipD_set _ _ _ _ hj, wipD_set _ _ _ _ hi], fun os as st γ H σ v S ⟨p, xs, e, hs, v1, r1, e1, h1, v2, r2, e2, h2, e3⟩ Q k => by
  subst e e1 e2; cases (show r2 = [] from e3)
  obtain ⟨p2, ys, f, gs, w1, s1, f1, g1, w2, s2, f2, g2, f3⟩ := h2
  subst f f1 f2; cases (show s2 = [] from f3)
  exact ⟨p, _, rfl, EL.sqT_of hs, rfl, v1, _, rfl, _, _, rfl, p2, _, rfl, EL.sqT_of gs, rfl, w1, _, rfl, w2, _, rfl, rfl, rfl, k _ (by rw [wipe_set _ _ _ _ hl, wipe_set _ _ _ _ hj, wipe_set _ _ _ _ hi]) (((S.set (x := .im a) h1).set (x := .im b) g1).set (x := .im c) g2)⟩⟩
theorem un2_inv {α : Type} {u : U} {k : U → U → M α} {st : Sto} {r : Res α × Sto} (h : un2 u k st = some r) : ∃ a b, u = .tup [a, b] := by
  cases u with
  | tup us =>
    match us, h with
    | [a, b], _ => exact ⟨a, b, rfl⟩
  | _ => cases h
theorem un3_inv {α : Type} {u : U} {k : U → U → U → M α} {st : Sto} {r : Res α × Sto} (h : un3 u k st = some r) : ∃ a b c, u = .tup [a, b, c] := by
  cases u with
  | tup us =>
    match us, h with
    | [a, b, c], _ => exact ⟨a, b, c, rfl⟩
  | _ => cases h
theorem unN_inv {α : Type} {u : U} {k : U → U → U → M α} {st : Sto} {r : Res α × Sto} (h : unN u k st = some r) : ∃ a b c, u = .tup [a, .tup [b, c]] := by
  cases u with
  | tup us =>
    match us, h with
    | [a, .tup [b, c]], _ => exact ⟨a, b, c, rfl⟩
  | _ => cases h
theorem patN {α : Type} {P : Dl → M α → Prop} (hi : i ∈ vs) (hj : j ∈ vs) (hl : l ∈ vs) {k : U → U → U → M α} (h : ∀ a b c, P (((δ.set i (some (.im a))).set j (some (.im b))).set l (some (.im c))) (k a b c)) :
    ∀ u st r, unN u k st = some r → ∃ δ', TgOk F (gNest F.G.K i j l) vs δ u δ' ∧ P δ' (unN u k) := fun u st r e => by
  obtain ⟨a, b, c, rfl⟩ := unN_inv e
  exact ⟨_, tg_nest hi hj hl, h a b c⟩
end
end UX

set_option Elab.async false
set_option linter.all false
set_option maxRecDepth 100000
set_option maxHeartbeats 4000000
set_option autoImplicit false
namespace UY
open PySem PySem.Spec PyProof.Rows L2
section
variable {X : Cx}
theorem dcG_core {pins : List (Addr × Obj)} {s : Shared} {σ : L2.St} {H : Hp} {Q : VK} {kx vx tg iter : Expr} {ifs : List Expr} {scope : Scope} {own : List (Str × Nat)} {pos pos' : Pos} {wi : TI} {g : TG} {tt : TT} {tk tv : TE} {use : Option (Value → Sem Unit)} {Qf : Value → Shared → Prop} (t : Bool) (hu : X.A.units + 1 < cLine) (hc : X.calm = true) (hN : X.N.Nodup) (I : Inv X pins σ H s) (hi : PI X tg iter wi) (ok : BlkOk X.N X.env.scope scope own)
    (hg : ∀ (s : Shared) (H : Hp) (C : Addr) (cl : List (Str × Addr)) (fp : List Addr), PG (X.blk s H scope (compEnvC scope cl C X.env) fp) tg g)
    (ht : ∀ (s : Shared) (H : Hp) (C : Addr) (cl : List (Str × Addr)) (fp : List Addr), PTs (X.blk s H scope (compEnvC scope cl C X.env) fp) ifs tt)
    (hk : ∀ (s : Shared) (H : Hp) (C : Addr) (cl : List (Str × Addr)) (fp : List Addr), PE (X.blk s H scope (compEnvC scope cl C X.env) fp) kx tk)
    (hv : ∀ (s : Shared) (H : Hp) (C : Addr) (cl : List (Str × Addr)) (fp : List Addr), PE (X.blk s H scope (compEnvC scope cl C X.env) fp) vx tv) (hs : ∀ x, foldedSetIterable iter X.env x = pure x)
    (h : tDcG t wi g tt tk tv (own.map (·.2)) σ H Q)
    (hRR : ∀ D C s' m H', Inv X pins σ H' s' → Q (.ref D) H' → s'.heap.Ns C m → FpOk X pins H' C → compPost (model X.prog X.w) X.A X.xe use Qf (.ref D) C (.ok .next) s') :
    wpAny (model X.prog X.w) X.A (comprehension (.DictComp kx vx [⟨tg, iter, ifs, 0⟩] scope pos) scope X.env pos' newDict false (eval iter X.env) use) Qf X.xe s := by
  have cells : ∀ y ∈ scope.names, y.2 = .free → ∃ c, X.env.cells.lookup y.1 = some c := fun y hy e => (ok.free y hy e).elim (fun z => I.ok.has _ (.inl z)) fun z => I.ok.has _ (.inr z)
  refine wpAny_comprehension_free (use := use) rfl hs (closure_ok cells) ok.kind (fun y hy e => by rw [ok.uniq y hy, e]) (thn (hi.run pins s σ H _ I h) fun xv s1 hx => thn hx fun itv s2 h2 => ?_)
  obtain ⟨it, fp, tn, J, H2, rfl, I2, T, t0, fr, q⟩ := h2
  refine wpAny_newObj_type (newEnv_comp ?_)
  have free2 : H2 s2.heap.objs.size = none := I2.hok.fresh (Nat.le_refl _)
  obtain ⟨W, ⟨m0, w0⟩, turn⟩ := q s2.heap.objs.size free2
  have low : ∀ b ∈ fp, b < s2.heap.objs.size := fun b hb => by
    obtain ⟨o, e, _⟩ := T.obj _ _ t0 b hb
    exact Heap.lt_size e
  generalize hD : s2.heap.objs.size = D at *
  generalize h3 : ({ s2 with heap := s2.heap.push { cls := .type "dict", data := .dict #[] } } : Shared) = s3
  have e3 : s3.heap = s2.heap.push { cls := .type "dict", data := .dict #[] } := by rw [← h3]
  generalize hH : upd H2 D (newD t) = H3 at w0
  have I3 : Inv X pins σ H3 s3 := by
    rw [← h3, ← hH]
    exact I2.laid (t' := s2.toks) (fun b o e => Heap.get?_push_of_some _ e) (Nat.le_of_eq hD) (hD ▸ new_ok t s2.heap I2.big)
  have far : ∀ b ∈ fp, FpOk X pins H3 b ∧ b < s3.heap.objs.size := fun b hb => by
    have lt := low b hb
    refine ⟨⟨?_, (fr b hb).2⟩, by rw [e3, Heap.size_push, hD]; exact Nat.lt_succ_of_lt lt⟩
    rw [← hH, upd_ne (Nat.ne_of_lt lt)]
    exact (fr b hb).1
  have gone : ∀ b ∈ fp, H3 b = none := fun b hb => (far b hb).1.1
  have I4 := block_start I3 ok hN far
  generalize hC : compEnvC scope (cellsFrom (s3.heap.objs.size + 1) scope.names (cloFrom X.env.cells scope.names [])) s3.heap.objs.size X.env = C at I4
  have kg : PG (X.blk s3 H3 scope C fp) tg g := hC ▸ hg s3 H3 _ _ fp
  have kt : PTs (X.blk s3 H3 scope C fp) ifs tt := hC ▸ ht s3 H3 _ _ fp
  have kk : PE (X.blk s3 H3 scope C fp) kx tk := hC ▸ hk s3 H3 _ _ fp
  have kv : PE (X.blk s3 H3 scope C fp) vx tv := hC ▸ hv s3 H3 _ _ fp
  have cl : C.locals = s3.heap.objs.size := by rw [← hC]; rfl
  show codeAny _ _ (.compStart (.DictComp kx vx [⟨tg, iter, ifs, 0⟩] scope pos) 0 (.ref it) (.ref D) (compEnvC scope (cellsFrom (s3.heap.objs.size + 1) scope.names (cloFrom X.env.cells scope.names [])) s3.heap.objs.size X.env)) (compPost (model X.prog X.w) X.A X.xe use Qf (.ref D) s3.heap.objs.size) { s3 with heap := pushCells (s3.heap.push { cls := .type "dict", data := .dict #[] }) scope.names }
  rw [hC]
  generalize h4 : ({ s3 with heap := pushCells (s3.heap.push { cls := .type "dict", data := .dict #[] }) scope.names } : Shared) = s4 at I4 ⊢
  have t4 : tn 0 s4.heap := T.keep _ _ _ t0 fun b _ o e => by rw [← h4]; exact pushCells_keeps _ _ _ _ (Heap.get?_push_of_some _ (by rw [e3]; exact Heap.get?_push_of_some _ e))
  have still : ∀ {σ' : L2.St} {H' : Hp} {s' : Shared}, Inv (X.blk s3 H3 scope C fp) [] σ' H' s' → (∀ b ∈ fp, H' b = none) → ∀ b ∈ fp, FpOk (X.blk s3 H3 scope C fp) [] H' b := fun {σ' H' s'} J' n b hb =>
    ⟨n b hb, (J'.ok.exf b hb).1, J'.ok.exfs b hb, .inl hb, fun x c e => (J'.ok.exf b hb).2 x c e, fun p hp => absurd (show p ∈ ([] : List (Addr × Obj)) ++ [] from hp) (by simp)⟩
  have body : codeAny (model X.prog X.w) X.A (.compLoop (.DictComp kx vx [⟨tg, iter, ifs, 0⟩] scope pos) 0 (.ref it) (.ref D) C) (compPost (model X.prog X.w) X.A X.xe use Qf (.ref D) s3.heap.objs.size) s4 := by
    refine compLoop_anyD (fun n s' => ∃ i H', Inv (X.blk s3 H3 scope C fp) [] (wipe σ (own.map (·.2))) H' s' ∧ tn i s'.heap ∧ (∀ b ∈ fp, H' b = none) ∧ W i n H') ?_ m0 ⟨0, H3, I4, t4, gone, w0⟩
    rintro n s5 ⟨i, H5, I5, t5, n5, w5⟩
    rcases turn i n H5 w5 with ⟨stop, fin⟩ | ⟨go, Nx, next, step⟩
    · refine thnF (T.done (X.blk s3 H3 scope C fp) rfl rfl rfl hc i [] s5 _ H5 (fun _ _ => False) I5 (still I5 n5) t5 stop) fun r s6 ⟨er, I6⟩ => ?_
      subst er
      have I7 : Inv X pins σ H5 s6 := I3.call' (ch := fp) I6.os I6.base I6.hok I6.bare fun b hb => let z := (far b hb).1; ⟨z.2.2.2.1, z.2.1, z.2.2.2.2.1, z.2.2.2.2.2⟩
      have bare : H5 s3.heap.objs.size = none := cl ▸ (show H5 C.locals = none from I6.free)
      obtain ⟨mm, hm, _⟩ := I6.loc
      have hm : s6.heap.Ns s3.heap.objs.size mm := cl ▸ (show s6.heap.Ns C.locals mm from hm)
      exact hRR D s3.heap.objs.size s6 mm H5 I7 fin hm (I3.fpOk (H' := H5) (Nat.le_refl _) bare)
    · refine thnF (T.item (X.blk s3 H3 scope C fp) rfl rfl rfl hc i [] s5 _ H5 (fun _ _ => False) I5 (still I5 n5) t5 go) fun r s6 ⟨u, er, h6⟩ => ?_
      subst er
      refine thnF h6 fun _ s7 ⟨x, H7, I7, r7, y7, t7, n7⟩ => ?_
      refine thnF (kg.run _ s7 _ H7 x u _ (I7.pinned (still I7 n7) (T.obj _ _ t7)) r7 (step x H7 y7)) fun _ s8 ⟨σ8, H8, I8, hw8, q8⟩ => ?_
      refine thnF (kt.run _ s8 σ8 H8 _ I8 q8) fun b s9 ⟨H9, I9, q9⟩ => ?_
      have fin : ∀ {s' : Shared} {H' : Hp}, Inv (X.blk s3 H3 scope C fp) ([] ++ pinsAt fp s7.heap) σ8 H' s' → Nx H' → ∃ m, m < n ∧ ∃ i H', Inv (X.blk s3 H3 scope C fp) [] (wipe σ (own.map (·.2))) H' s' ∧ tn i s'.heap ∧ (∀ b ∈ fp, H' b = none) ∧ W i m H' := fun {s' H'} J' nx => by
        obtain ⟨m', lt, w'⟩ := next H' nx
        have pins' : ∀ b ∈ fp, ∀ o, s7.heap.get? b = some o → s'.heap.get? b = some o ∧ H' b = none := fun b hb o e =>
          let z := J'.pin (b, o) (List.mem_append_right _ (List.mem_append_right _ (mem_pinsAt hb e))); ⟨z.1, z.2.1⟩
        refine ⟨m', lt, i + 1, H', (J'.unpinned (pins := [])).weak (by rw [← hw8, wipe_length]) (fun j v e => by rw [← hw8] at e; exact (wipe_some e).1), T.keep _ _ _ t7 fun b hb o e => (pins' b hb o e).1, fun b hb => ?_, w'⟩
        obtain ⟨o, e, _⟩ := T.obj _ _ t7 b hb
        exact (pins' b hb o e).2
      cases b with
      | false => exact fin I9 q9
      | true =>
        refine thnF (kk.run _ s9 σ8 H9 _ I9 q9) fun z s10 ⟨yk, H10, I10, r10, q10⟩ => ?_
        refine thnF (kv.run _ s10 σ8 H10 _ I10 q10) fun z2 s11 ⟨yv, H11, I11, r11, H12, put, nx⟩ => ?_
        exact lay_entry (X := X.blk s3 H3 scope C fp) hu I11 put r10 r11 fun s12 I12 => fin I12 nx
  exact codeAny_compStart_dict body (T.self X.A 0 _ _ _ t4 body)
theorem ps_setDcG {i : Nat} {y : Str} {py : Pos} {kx vx tg iter : Expr} {ifs : List Expr} {scope : Scope} {own : List (Str × Nat)} {pos spos : Pos} {wi : TI} {g : TG} {tt : TT} {tk tv : TE} (t : Bool) (hu : X.A.units + 1 < cLine) (hc : X.calm = true) (hN : X.N.Nodup) (hy : X.N[i]? = some y) (hyl : X.env.scope.names.lookup y = some .local)
    (hsw : swapsWith (.DictComp kx vx [⟨tg, iter, ifs, 0⟩] scope pos) (some (.Name y py)) spos.line X.env = pure true) (hi : PI X tg iter wi) (ok : BlkOk X.N X.env.scope scope own)
    (hg : ∀ (s : Shared) (H : Hp) (C : Addr) (cl : List (Str × Addr)) (fp : List Addr), PG (X.blk s H scope (compEnvC scope cl C X.env) fp) tg g)
    (ht : ∀ (s : Shared) (H : Hp) (C : Addr) (cl : List (Str × Addr)) (fp : List Addr), PTs (X.blk s H scope (compEnvC scope cl C X.env) fp) ifs tt)
    (hk : ∀ (s : Shared) (H : Hp) (C : Addr) (cl : List (Str × Addr)) (fp : List Addr), PE (X.blk s H scope (compEnvC scope cl C X.env) fp) kx tk)
    (hv : ∀ (s : Shared) (H : Hp) (C : Addr) (cl : List (Str × Addr)) (fp : List Addr), PE (X.blk s H scope (compEnvC scope cl C X.env) fp) vx tv) (hs : ∀ x, foldedSetIterable iter X.env x = pure x := by intro _; rfl) :
    PS X (.Assign [.Name y py] (.DictComp kx vx [⟨tg, iter, ifs, 0⟩] scope pos) spos) (tAsg (tDcG t wi g tt tk tv (own.map (·.2))) (gName i)) := by
  refine ⟨fun pins s σ H D I h => ?_⟩
  rw [exec_Assign_Name_used _ _ _ _ hsw]
  refine wpAny_bind (wpAny_standAt (wpAny_bind ?_))
  show wpAny _ X.A (do let _ ← comprehension (.DictComp kx vx [⟨tg, iter, ifs, 0⟩] scope pos) scope X.env (firstIterPos [⟨tg, iter, ifs, 0⟩] pos) newDict false (eval iter X.env) (some (assign (.Name y py) X.env))) _ _ s
  have h : tDcG t wi g tt tk tv (own.map (·.2)) σ H (fun x H1 => gName i x σ H1 D.nx) := h
  refine wpAny_bind (thn (dcG_core (Qf := fun _ s' => SP X pins D .next s') t hu hc hN I hi ok hg ht hk hv hs h fun L C s' m H' I' q hn f => ?_) fun _ s' hq => wpAny_pure (wpAny_pure hq))
  show wpAny _ _ (assign (.Name y py) X.env (.ref L)) _ _ _
  refine wpAny_assign_Name (store_ok2 (v := V.ref L) I' hN hy (.inl hyl) rfl (fun s2 I2 ⟨a, sb, ha⟩ => ?_) (.inr hyl))
  obtain ⟨f0, f1, f2, f3, f4, f5⟩ := f
  have haC : C ≠ a := by
    rcases ha with z | z
    · rw [z]; exact f1
    · exact fun e => f4 y a z e.symm
  refine ⟨m, hn.sameBut sb haC, fun h3 sb3 => ?_⟩
  exact ⟨_, H', I2.turned (t' := s2.toks) (fun b o hb e => (sb3.2 b hb).trans e) f0 f1 f3 f4 f5, q⟩
theorem sw_trueD {kx vx : Expr} {gs : List Comprehension} {scope : Scope} {pos py : Pos} {y : Str} {l : Nat} {env : Env} (hk : env.scope.kind = .function) (hy : env.scope.names.lookup y = some .local) (hl : (py.line == pos.line) = true)
    (ha : (scope.names.any fun (n, k) => n == y && (k == .local || k == .cell)) = false) : swapsWith (.DictComp kx vx gs scope pos) (some (.Name y py)) l env = pure true := by
  have ky : env.kindOf y = some .local := hy
  have hb : env.blockKind = .function := by unfold Env.blockKind; rw [hk]; rfl
  unfold swapsWith
  simp only [hb, ky, ha, Expr.pos, hl]
  rfl
end
end UY
namespace UX
open PySem PySem.Spec PyProof.Rows L2 UY
theorem TgOk.to {F : Fr} {g : TG} {vs : List Nat} {δ δ1 δ2 : Dl} {u : U} (h : TgOk F g vs δ u δ1) (e : δ1 = δ2) : TgOk F g vs δ u δ2 := e ▸ h
end UX

set_option Elab.async false
set_option linter.all false
set_option maxRecDepth 100000
set_option maxHeartbeats 4000000
set_option autoImplicit false
namespace SrtO
open PySem PyProof.Rows
section
variable {prog : Program} {w : World} {A : Around} {E : Value → Shared → Prop} {s : Shared}
def rkLt (r : Value → Int) (v u : Value) : Bool := decide (r v < r u)
theorem swo_rk (r : Value → Int) : Swo (rkLt r) := by
  refine ⟨fun x y h => ?_, fun x y z h1 h2 => ?_⟩
  · have a := of_decide_eq_true h
    exact decide_eq_false (by omega)
  · have a := of_decide_eq_false h1
    have b := of_decide_eq_false h2
    exact decide_eq_false (by omega)
theorem tups_cmp {vs : List Value} {d : Nat} {B : Int} {r : Value → Int} (x : TS.TupsOk s.heap d B vs) (hr : ∀ v, v ∈ vs → ∀ ns, TS.TupInts s.heap v ns → r v = TS.code B ns) : Cmp prog w A s (tuples' true) (fun p => p.1 ∈ vs) (lt2 (rkLt r)) := by
  intro p q hm hm'
  show wpAny (model prog w) A (keyLt' (tuples' true) p.1 q.1) (fun y s' => s' = s ∧ y = decide (r p.1 < r q.1)) (fun _ _ => False) s
  obtain ⟨ns, tp, lp, bp⟩ := x _ hm
  obtain ⟨ms, tq, lq, bq⟩ := x _ hm'
  rw [hr _ hm _ tp, hr _ hm' _ tq]
  obtain ⟨a, xs, e1, ⟨o, ho, hc, n, hdt⟩, i⟩ := tp
  obtain ⟨a', ys, e2, ⟨o', ho', hc', n', hdt'⟩, i'⟩ := tq
  rw [e1, e2]
  refine PySem.W.kat_lt ho hdt ho' hdt' ?_
  have sz : decide (xs.size < ys.size) = false := by
    have l1 := i.length
    have l2 := i'.length
    rw [Array.length_toList] at l1 l2
    exact decide_eq_false (by omega)
  rw [sz]
  exact TS.lex_ints (Q := fun y s' => s' = s ∧ y = decide (TS.code B ns < TS.code B ms)) 0 i i' (by omega) bp bq ⟨rfl, rfl⟩
theorem tups_sortableO {a : Addr} {vs : List Value} {d : Nat} {B : Int} {r : Value → Int} (hd : 1 ≤ d) (h0 : 0 < vs.length) (x : TS.TupsOk s.heap d B vs) (hr : ∀ v, v ∈ vs → ∀ ns, TS.TupInts s.heap v ns → r v = TS.code B ns) (ha : ∀ o, s.heap.get? a = some o → o.cls ≠ .type "tuple") : SortableO prog w A s a vs (rkLt r) := by
  intro h' keep
  have kp : ∀ b o, s.heap.get? b = some o → o.cls = .type "tuple" → h'.get? b = some o := fun b o e c => keep b o (fun z => by subst z; exact ha o e c) e
  have x' : TS.TupsOk h' d B vs := x.keeps kp
  obtain ⟨fs, h1, h2, h3⟩ := TS.firsts_of hd vs x'
  refine ⟨tuples' true, fun Q E hq => ?_, tups_cmp (s := { s with heap := h' }) x' fun v hv ns t => ?_⟩
  · refine PySem.W.kat_kind (T := .type "int") h1 (by omega) (fun f hm => ?_) (by rfl) ?_
    · obtain ⟨x, t, rfl⟩ := h3 f hm
      exact PySem.W.Looks.now
    · have e : (Value.type "int" != Value.type "tuple") = true := by first | decide +kernel | rfl | decide
      rw [e]
      exact hq
  · obtain ⟨ns0, t0, _⟩ := x v hv
    have e : ns = ns0 := (show TS.TupInts h' v ns from t).ints.symm.trans (t0.keeps kp).ints
    rw [e]
    exact hr v hv ns0 t0
theorem sorted_tupsO {l : Addr} {vs : List Value} {d : Nat} {B : Int} {Q : Value → Shared → Prop} (hl : s.heap.IsList l vs.toArray) (hz : vs.length ≤ sizeLine) (hd : 1 ≤ d) (x : TS.TupsOk s.heap d B vs)
    (h : ∀ out : List Value, out.Perm vs → out.Pairwise (fun u v => TS.code B (TS.intsOf s.heap u) ≤ TS.code B (TS.intsOf s.heap v)) → Q (.ref (s.heap.objs.size + 1)) { s with heap := sortedAll s.heap vs out.toArray }) :
    wpAny (model prog w) A (call (.builtin "sorted") [.ref l]) Q E s := by
  refine sorted_ord (swo_rk fun v => TS.code B (TS.intsOf s.heap v)) hl hz (fun h2 h₁ a ha kk => ?_) fun out hs hb => h out hb.perm ?_
  · refine tups_sortableO (s := { s with heap := h₁ }) hd (by omega) (x.keeps fun b o e _ => (kk b o e).2) (fun v hv ns t => ?_) fun o e => ?_
    · obtain ⟨ns0, t0, _⟩ := x v hv
      have e : ns = ns0 := (show TS.TupInts h₁ v ns from t).ints.symm.trans (t0.keeps fun b o e _ => (kk b o e).2).ints
      rw [e]
      show TS.code B (TS.intsOf s.heap v) = TS.code B ns0
      rw [t0.ints]
    · have e' : some o = some (seqObj "list" vs.toArray 0) := e.symm.trans ha
      cases e'
      intro c
      exact absurd (Value.type.inj c) (by decide)
  · exact List.Pairwise.imp (fun {u v} (z : rkLt _ v u = false) => by
      have h : ¬ TS.code B (TS.intsOf s.heap v) < TS.code B (TS.intsOf s.heap u) := of_decide_eq_false z
      omega) hs
end
end SrtO
namespace L2
open PySem PySem.Spec PyProof.Rows
section
variable {X : Cx}
def rSortUO (K : PySem.W.Frag) (d : Nat) (B : Int) : List V → Hp → VK → Prop := fun vs H Q => ∃ (a : Addr) (xs : List V), vs = [V.ref a] ∧ SqL K H a xs ∧ (∀ x ∈ xs, ∃ ns, TupI K H x ns ∧ ns.length = d ∧ TS.Bd B ns) ∧
  ∀ (ys : List V) (p : Addr), ys.Perm xs → ys.Pairwise (fun x y => ∀ n m, TupI K H x n → TupI K H y m → TS.code B n ≤ TS.code B m) → H p = none → Q (.ref p) (upd H p (.lst ys))
theorem cr_sortTO {d : Nat} {B : Int} (hd : 1 ≤ d) : CallR X (.builtin "sorted") (rSortUO X.K d B) := by
  intro pins s σ H vs us Q I r h
  obtain ⟨a, xs, rfl, hs, hx, q⟩ := h
  obtain ⟨its, rv, hl, hz⟩ := I.list hs
  rw [Vals.ref1 r]
  obtain ⟨e1, e2⟩ := bkV_refs rv fun x m => by
    obtain ⟨ns, ⟨t, e, _⟩, _⟩ := hx x m
    exact ⟨t, e⟩
  refine SrtO.sorted_tupsO (d := d) (B := B) hl.isList (by rw [← rv.length]; exact hz) hd (fun v hv => ?_) fun out h1 h2 => ?_
  · obtain ⟨t, rfl⟩ := e2 v hv
    have hm : V.ref t ∈ xs := by
      rw [e1]
      exact List.mem_map.mpr ⟨_, hv, rfl⟩
    obtain ⟨ns, ⟨t', e, ht⟩, hn, hb⟩ := hx _ hm
    cases e
    exact ⟨ns, tupI_raw I ht, hn, hb⟩
  · obtain ⟨ep, he'⟩ := PyProof.Rows.sortedAll_at s.heap its out.toArray
    have h3 : ∀ u ∈ out, ∃ a, u = Value.ref a := fun u hu => e2 u (h1.mem_iff.mp hu)
    have hp : (out.map bkV).Perm xs := by
      rw [e1]
      exact h1.map bkV
    have hlen : (out.map bkV).length ≤ sizeLine := by
      rw [hp.length_eq]
      exact hz
    refine ⟨.ref _, upd H (s.heap.objs.size + 1) (.lst (out.map bkV)), I.laid (t' := s.toks) (fun _ _ => PyProof.Rows.sortedAll_old) (Nat.le_succ _) ⟨hlen, out, ep, bkV_vals h3, he'⟩, rfl, q _ _ hp ?_ (I.hok.fresh (Nat.le_succ _))⟩
    rw [List.pairwise_map]
    refine List.Pairwise.imp (fun {u v} huv n m hn hm => ?_) h2
    obtain ⟨t, et, ht⟩ := hn
    obtain ⟨t', et', ht'⟩ := hm
    have eu := bkV_ref et
    have ev := bkV_ref et'
    have i1 : TS.intsOf s.heap u = n := by
      rw [eu]
      exact (tupI_raw I ht).ints
    have i2 : TS.intsOf s.heap v = m := by
      rw [ev]
      exact (tupI_raw I ht').ints
    rw [← i1, ← i2]
    exact huv
def rSortAnyO (K : PySem.W.Frag) : List V → Hp → VK → Prop := fun vs H Q => ∃ d, 1 ≤ d ∧ rSortUO K d UX.B0 vs H Q
theorem cr_sortAnyO (K : PySem.W.Frag) (hK : X.K = K := by rfl) : CallR X (.builtin "sorted") (rSortAnyO K) := fun pins s σ H xs us Q I r ⟨d, hd, h⟩ => by
  subst hK
  exact cr_sortTO hd pins s σ H xs us Q I r h
end
end L2
namespace UX
open PySem PySem.Spec PyProof.Rows L2
open EL (Ex RB BOk Bn TK)
def RowsOkL (d : Nat) (L : List (List Int)) : Prop := 1 ≤ d ∧ ∀ ns ∈ L, ns.length = d ∧ TS.Bd B0 ns
instance (d : Nat) (L : List (List Int)) : Decidable (RowsOkL d L) := by unfold RowsOkL TS.Bd; infer_instance
def sortTUL : U → Option U
  | .lst us => match rowsU us with
    | some L => if RowsOkL (rowLen L) L then some (.lst ((sortI L).map tupI)) else none
    | none => none
  | _ => none
section
variable {F : Fr}
theorem ok_sortL : Op1Ok F (rSortAnyO F.G.K) sortTUL := fun os as H a c x ok ha e QQ k => by
  cases a with
  | lst us => ?_
  | _ => cases e
  simp only [sortTUL] at e
  cases q : rowsU us with
  | none => rw [q] at e; cases e
  | some L =>
    rw [q] at e
    simp only at e
    split at e
    case isFalse => cases e
    rename_i hok
    cases e
    obtain ⟨hd, hall⟩ := hok
    obtain ⟨p, xs, rfl, _, hp, hx⟩ := ha
    obtain ⟨_, hT⟩ := rows_im q hx
    refine ⟨rowLen L, hd, p, xs, rfl, EL.sqL_of hp, fun z m => ?_, fun ys l py pw hl => ?_⟩
    · obtain ⟨ns, hm, t, e1, e2⟩ := allT_mem hT m
      exact ⟨ns, ⟨t, e1, EL.sqT_of e2⟩, hall ns hm⟩
    · obtain ⟨L', pL, hT'⟩ := allT_perm py hT
      have e1 : L' = sortI L := sort_one hall pL (allT_pw (K := F.G.K) hT' pw)
      subst e1
      exact k _ _ (Ex.new hl) ⟨l, ys, rfl, fun z => ok l z hl, upd_same, imAll_st (RB.of_ex (Ex.new hl)) _ _ (allT_im hT')⟩
end
end UX

set_option Elab.async false
set_option linter.all false
set_option maxRecDepth 100000
set_option maxHeartbeats 4000000
set_option autoImplicit false
namespace UX
open PySem PySem.Spec PyProof.Rows L2
end UX

set_option Elab.async false
set_option linter.all false
set_option maxRecDepth 100000
set_option maxHeartbeats 4000000
set_option autoImplicit false
namespace UX
open PySem PySem.Spec PyProof.Rows L2 UY
open EL (Ex RB BOk Bn TK rMulU rEqU)
section
variable {F : Fr}
end
section
variable {F : Fr} {S L : Type} {δ : Dl} {δn : S → Dl} {δl : L → Dl} {t2 : TS} {i : Nat} {Sh0 : Sh}
end
end UX

set_option Elab.async false
set_option linter.all false
set_option maxRecDepth 100000
set_option maxHeartbeats 4000000
set_option autoImplicit false
namespace UX
open PySem PySem.Spec PyProof.Rows L2 UY
open EL (Ex RB BOk Bn TK rMulU rEqU)
section
variable {F : Fr} {S L : Type} {δ : Dl} {i : Nat} {Sh0 : Sh} {te td tx : TE}
end
section
variable {F : Fr} {os : Os} {as : SA} {st : Sto} {γ : List (U × V)} {H : Hp} {σ : L2.St} {δ : Dl} {i : Nat} {A C : List Addr}
end
section
variable {F : Fr} {S L : Type} {δ : Dl} {δn : S → Dl} {δl : L → Dl} {t2 : TS} {i : Nat}
end
end UX

set_option Elab.async false
set_option linter.all false
set_option maxRecDepth 100000
set_option maxHeartbeats 4000000
set_option autoImplicit false
namespace UX
open PySem PySem.Spec PyProof.Rows L2 UY
open EL (Ex RB BOk Bn TK rMulU rEqU)
section
variable {F : Fr} {os : Os} {as : SA} {st : Sto} {γ : List (U × V)} {H : Hp} {σ : L2.St} {δ : Dl}
end
end UX

set_option Elab.async false
set_option linter.all false
set_option maxRecDepth 100000
set_option maxHeartbeats 4000000
set_option autoImplicit false
namespace UX
open PySem PySem.Spec PyProof.Rows L2 UY
open EL (Ex RB BOk Bn TK rMulU rEqU)
structure LSN (F : Fr) (s : Sh) (os : Os) (k0 : Nat) (D : Addr) (as : SA) (st : Sto) (γ : List (U × V)) (H : Hp) (σ : L2.St) (δ : Dl) (accU : List U) (A : List Addr) : Prop where
  S : SDo F ((k0, D :: A) :: os) as st γ H σ δ
  a : ∃ acc, H D = some (.lst acc) ∧ ownZ (fun _ => ownD F.G (rts as) (ban F ((k0, D :: A) :: os) as) s) 0 accU acc H A
section
variable {F : Fr} {os : Os} {as as' : SA} {st st' : Sto} {γ : List (U × V)} {H H' : Hp} {σ : L2.St} {δ : Dl} {k0 : Nat} {D : Addr} {accU : List U} {A : List Addr} {s : Sh}
theorem ownZ_go {s : Sh} {os : Os} {us : List U} {n : Nat} {vs : List V} {A : List Addr} (g : Go as as' H H') (h : ownZ (fun _ => ownD F.G (rts as) (ban F os as) s) n us vs H A) (k : ∀ a ∈ A, a ∉ fl as) (al : ∀ a ∈ A, H a ≠ none) : ownZ (fun _ => ownD F.G (rts as') (ban F os as') s) n us vs H' A :=
  ownZ_mono (fun n u v A1 hs ho => own_mono (fun _ _ h => im_go g h) (fun _ _ h => sqT_go g h) _ _ _ _ (fun a m => by
    cases e : H a with
    | none => exact absurd e (al a (hs a m))
    | some o => exact g.rb.keep a o (k a (hs a m)) e) ho) h
theorem LSN.go (l : LSN F s os k0 D as st γ H σ δ accU A) {σ' : L2.St} {δ' : Dl} (g : Go as as' H H') (S : SDo F ((k0, D :: A) :: os) as' st' γ H' σ' δ') : LSN F s os k0 D as' st' γ H' σ' δ' accU A := by
  obtain ⟨acc, e, h⟩ := l.a
  have nf : ∀ a ∈ D :: A, a ∉ fl as := fun a m q => (List.nodup_append.mp l.S.nd).2.2 a (List.mem_append_left _ m) a q rfl
  exact ⟨S, acc, g.rb.keep _ _ (nf D List.mem_cons_self) e, ownZ_go g h (fun a m => nf a (List.mem_cons_of_mem _ m)) fun a m => l.S.ok a (.inr (.inl (List.mem_append_left _ (List.mem_cons_of_mem _ m))))⟩
theorem LSN.push {k : Nat} {B : List Addr} (l : LSN F s os k0 D as st γ H σ δ accU A) (hk : δ.length ≤ k0) (hk1 : δ.length ≤ k) (hko : k0 ∉ os.map (·.1)) {u : U} {y : V} {as2 : SA} {st2 : Sto} {H2 : Hp} (g : Go as as2 H H2) (S2 : SDo F ((k, B) :: (k0, D :: A) :: os) as2 st2 γ H2 σ δ) (hB : ∀ a ∈ B, H a = none) (p : ownD F.G (rts as2) (ban F ((0, B) :: (k0, D :: A) :: os) as2) s u y H2 B) :
    ∃ acc, H2 D = some (.lst acc) ∧ acc.length = accU.length ∧ LSN F s os k0 D as2 st2 γ (upd H2 D (.lst (acc ++ [y]))) σ δ (accU ++ [u]) (A ++ B) := by
  obtain ⟨acc, e, h⟩ := l.a
  have nf : ∀ a ∈ D :: A, a ∉ fl as := fun a m q => (List.nodup_append.mp l.S.nd).2.2 a (List.mem_append_left _ m) a q rfl
  have al : ∀ a ∈ D :: A, H a ≠ none := fun a m => l.S.ok a (.inr (.inl (List.mem_append_left _ m)))
  have e2 : H2 D = some (.lst acc) := g.rb.keep _ _ (nf D List.mem_cons_self) e
  have h2 : ownZ (fun _ => ownD F.G (rts as2) (ban F ((k, B) :: (k0, D :: A) :: os) as2) s) 0 accU acc H2 A := by
    have h1 : ownZ (fun _ => ownD F.G (rts as) (ban F ((k, B) :: (k0, D :: A) :: os) as) s) 0 accU acc H A := ownZ_mono (fun n u v A1 hs ho => own_mono (fun _ _ z => im_sub (sub_cons hB) _ _ z) (fun _ _ z => z) _ _ _ _ (fun _ _ => rfl) ho) h
    exact ownZ_go (os := (k, B) :: (k0, D :: A) :: os) g h1 (fun a m => nf a (List.mem_cons_of_mem _ m)) fun a m => al a (List.mem_cons_of_mem _ m)
  have S3 := S2.merge (k := k0) hk hk1 hko
  have c : Chg F ((k0, (D :: A) ++ B) :: os) as2 H2 (upd H2 D (.lst (acc ++ [y]))) k0 ((D :: A) ++ B) ((D :: A) ++ B) D := chg_same List.mem_cons_self List.mem_cons_self S3 e2 (fun _ z => nomatch z) (fun _ _ z => nomatch z)
  have S4 := S3.mut c (x := none) (fun _ z => nomatch z)
  have so := setOs_same S3.ix (List.mem_cons_self (a := (k0, (D :: A) ++ B)) (l := os))
  rw [so, List.set_eq_of_length_le hk] at S4
  have bb : ∀ a, ban F ((k0, (D :: A) ++ B) :: os) as2 a → ban F ((k, B) :: (k0, D :: A) :: os) as2 a := fun a b => by
    rw [ban_cons, List.mem_append] at b
    rw [ban_cons, ban_cons]
    rcases b with (h | h) | h
    · exact .inr (.inl h)
    · exact .inl h
    · exact .inr (.inr h)
  have up : ∀ u v, im F.G (rts as2) (ban F ((k, B) :: (k0, D :: A) :: os) as2) u v H2 → im F.G (rts as2) (ban F ((k0, D :: (A ++ B)) :: os) as2) u v (upd H2 D (.lst (acc ++ [y]))) := fun u v h => by
    have h1 : im F.G (rts as2) (ban F ((k0, (D :: A) ++ B) :: os) as2) u v H2 := im_sub (fun a _ b => bb a b) _ _ h
    have := c.im h1
    rw [so] at this
    exact this
  have nd : ((D :: A) ++ B).Nodup := os_nodup _ (List.nodup_append.mp S3.nd).1 List.mem_cons_self
  have nD := (List.nodup_cons.mp (show (D :: (A ++ B)).Nodup from nd)).1
  have tt : ∀ c xs, H2 c = some (.tup xs) → (upd H2 D (.lst (acc ++ [y]))) c = some (.tup xs) := fun c xs h => by rw [upd_ne (fun e => by rw [e, e2] at h; cases h)]; exact h
  refine ⟨acc, e2, ownZ_len h, S4, acc ++ [y], upd_same, ?_⟩
  have hz := ownZ_mono (P' := fun _ => ownD F.G (rts as2) (ban F ((k0, D :: (A ++ B)) :: os) as2) s) (H' := upd H2 D (.lst (acc ++ [y]))) (fun n u v A1 hs ho => own_mono up tt _ _ _ _ (fun a m => upd_ne fun z => nD (z ▸ List.mem_append_left _ (hs a m))) ho) h2
  exact ownZ_snoc1 hz (own_mono up tt _ _ _ _ (fun a m => upd_ne fun z => nD (z ▸ List.mem_append_right _ m)) p)
end
section
variable {F : Fr} {δ : Dl} {wi : TI} {g : TG} {tt : TT} {te : TE} {vs : List Nat} {wl : M (List U)} {s : Sh}
end
section
variable {G : Cxt} {rs : List Addr} {B : Bn} {H : Hp}
end
section
variable {F : Fr} {δ : Dl} {te tk : TE}
end
end UX

set_option Elab.async false
set_option linter.all false
set_option maxRecDepth 100000
set_option maxHeartbeats 4000000
set_option autoImplicit false
namespace UX
open PySem PySem.Spec PyProof.Rows L2 UY
open EL (Ex RB BOk Bn TK rMulU rEqU)
mutual
def noL : U → Bool
  | .non => true
  | .bl _ => true
  | .int _ => true
  | .str _ => true
  | .top _ => true
  | .loc _ => true
  | .tup us => noLs us
  | _ => false
def noLs : List U → Bool
  | [] => true
  | u :: us => noL u && noLs us
end
section
variable {G : Cxt} {rs : List Addr} {B B' : Bn} {H : Hp}
mutual
theorem im_noL : ∀ (u : U) (v : V), noL u = true → im G rs B u v H → im G rs B' u v H
  | .non, _, _, h => h
  | .bl _, _, _, h => h
  | .int _, _, _, h => h
  | .str _, _, _, h => h
  | .top _, _, _, h => h
  | .loc _, _, _, h => h
  | .exc _, _, e, _ => by cases e
  | .tup us, _, e, ⟨a, vs, e1, h, q⟩ => ⟨a, vs, e1, h, imAll_noL us vs e q⟩
  | .lst _, _, e, _ => by cases e
  | .dct _ _, _, e, _ => by cases e
  | .dcT _ _, _, e, _ => by cases e
  | .dcN _ _, _, e, _ => by cases e
  | .obj _ _ _, _, e, _ => by cases e
  | .frl _, _, e, _ => by cases e
theorem imAll_noL : ∀ (us : List U) (vs : List V), noLs us = true → imAll G rs B us vs H → imAll G rs B' us vs H
  | [], _, _, h => h
  | u :: us, _, e, ⟨v, r, ev, h1, h2⟩ => by
    have e' := Bool.and_eq_true_iff.mp (show (noL u && noLs us) = true from e)
    exact ⟨v, r, ev, im_noL u v e'.1 h1, imAll_noL us r e'.2 h2⟩
end
theorem leaf_noL {u : U} (h : noL u = true) : leafU u = true := by cases u <;> first | rfl | cases h
theorem leafs_noL : ∀ {us : List U}, noLs us = true → us.all leafU = true
  | [], _ => rfl
  | u :: us, e => by
    have e' := Bool.and_eq_true_iff.mp (show (noL u && noLs us) = true from e)
    exact Bool.and_eq_true_iff.mpr ⟨leaf_noL e'.1, leafs_noL e'.2⟩
def cellN : U → Bool
  | .lst us => noLs us
  | u => noL u
theorem ownC_noL {u : U} {v : V} {A : List Addr} (e : cellN u = true) (h : ownC G rs B u v H A) : ownC G rs B' u v H A := by
  cases u with
  | lst us =>
    have e : noLs us = true := e
    obtain ⟨a, vs, A', e1, e2, e3, z⟩ := (show ownF G rs B (.lst us) v H A from h)
    obtain ⟨zA, hv⟩ := (flat_ownFs (leafs_noL e)).mp z
    exact (show ownF G rs B' (.lst us) v H A from ⟨a, vs, A', e1, e2, e3, (flat_ownFs (leafs_noL e)).mpr ⟨zA, imAll_noL _ _ e hv⟩⟩)
  | obj _ _ _ => cases e
  | dct _ _ => cases e
  | dcT _ _ => cases e
  | dcN _ _ => cases e
  | frl _ => cases e
  | non => exact ⟨h.1, im_noL _ _ e h.2⟩
  | bl _ => exact ⟨h.1, im_noL _ _ e h.2⟩
  | int _ => exact ⟨h.1, im_noL _ _ e h.2⟩
  | str _ => exact ⟨h.1, im_noL _ _ e h.2⟩
  | tup _ => exact ⟨h.1, im_noL _ _ e h.2⟩
  | top _ => exact ⟨h.1, im_noL _ _ e h.2⟩
  | loc _ => exact ⟨h.1, im_noL _ _ e h.2⟩
  | exc _ => cases e
theorem StOk.noL : ∀ {as : SA} {st : Sto}, st.all cellN = true → StOk G B rs as st H → StOk G B' rs as st H
  | [], [], _, _ => trivial
  | p :: as, u :: st, e, ⟨h1, h2⟩ => by
    have e' := Bool.and_eq_true_iff.mp (show (cellN u && st.all cellN) = true from e)
    exact ⟨ownC_noL e'.1 h1, StOk.noL e'.2 h2⟩
  | [], _ :: _, _, h => h.elim
  | _ :: _, [], _, h => h.elim
end
section
variable {F : Fr} {δ : Dl}
theorem im_goA {os : Os} {as as' : SA} {H H' : Hp} {A' : List Addr} {k : Nat} (g : Go as as' H H') (fr : ∀ a ∈ A', H a = none) {u : U} {v : V} (h : im F.G (rts as) (ban F os as) u v H) : im F.G (rts as') (ban F ((k, A') :: os) as') u v H' :=
  im_go g (im_sub (sub_cons fr) _ _ h)
theorem SDo.back {os : Os} {as as' : SA} {st st' : Sto} {γ : List (U × V)} {H H' : Hp} {σ : L2.St} {i k k0 : Nat} {A' : List Addr} {δ' : Dl} (S : SDo F os as st γ H σ δ) (g : Go as as' H H') (fr : ∀ a ∈ A', H a = none)
    (S2 : SDo F ((k0, A') :: os.filter fun q => decide (q.1 ≠ i)) as' st' γ H' σ δ') (cn : st'.all cellN = true) (hk : k ∉ os.map (·.1)) : SDo F ((k, A') :: os) as' st' γ H' σ δ := by
  have al : ∀ a ∈ flo os, H' a ≠ none := fun a m => g.alive (S.ok a (.inr (.inl m)))
  have nd2 := List.nodup_append.mp S2.nd
  have ndA : A'.Nodup := (List.nodup_append.mp (show (A' ++ flo _).Nodup from nd2.1)).1
  have dj : ∀ a ∈ flo os, a ∉ fl as' := fun a m q => by
    rcases g.new a q with z | z
    · exact (List.nodup_append.mp S.nd).2.2 a m a z rfl
    · exact S.ok a (.inr (.inl m)) z
  have djA : ∀ a ∈ A', a ∉ fl as' := fun a m q => nd2.2.2 a (List.mem_append_left _ m) a q rfl
  have djO : ∀ a ∈ A', a ∉ flo os := fun a m q => S.ok a (.inr (.inl q)) (fr a m)
  refine ⟨fun p m => im_goA g fr (S.gh p m), S.rel.trans g, fun a b => ?_, ?_, List.nodup_cons.mpr ⟨hk, S.ix⟩, fun a m => ?_, fun a z b => ?_, StOk.noL cn S2.sto, S.len, fun j s e => ?_⟩
  · rcases ban_cons.mp b with b | b | b | b
    · exact S2.ok a (.inr (.inl (List.mem_append_left _ b)))
    · exact g.alive (S.ok a (.inl b))
    · exact al a b
    · exact S2.ok a (.inr (.inr b))
  · show (A' ++ flo os ++ fl as').Nodup
    refine List.nodup_append.mpr ⟨List.nodup_append.mpr ⟨ndA, (List.nodup_append.mp S.nd).1, fun a m b mb e => djO a m (e ▸ mb)⟩, nd2.2.1, fun a m b mb e => ?_⟩
    subst e
    rcases List.mem_append.mp m with m | m
    · exact djA a m mb
    · exact dj a m mb
  · rcases List.mem_append.mp (show a ∈ A' ++ flo os from m) with m | m
    · exact S.rel.fresh (fr a m)
    · exact S.new a m
  · rcases z with z | z
    · rcases List.mem_append.mp (show a ∈ A' ++ flo os from z) with m | m
      · exact S.ok a (.inl b) (fr a m)
      · exact S.nb a (.inl m) b
    · rcases g.new a z with q | q
      · exact S.nb a (.inr q) b
      · exact S.ok a (.inl b) q
  · obtain ⟨v, h1, h2⟩ := S.at_ j s e
    refine ⟨v, h1, ?_⟩
    match s, h2 with
    | .im u, h2 => exact im_goA g fr h2
    | .raw _, h2 => exact h2
    | .own sh u, ⟨B, m, h2⟩ =>
      refine ⟨B, List.mem_cons_of_mem _ m, own_mono (fun _ _ h => im_goA g fr h) (fun _ _ h => sqT_go g h) _ _ _ _ (fun a z => ?_) h2⟩
      cases e : H a with
      | none => exact absurd e (S.ok a (.inr (.inl (mem_flo m z))))
      | some o => exact g.rb.keep a o (fun q => (List.nodup_append.mp S.nd).2.2 a (mem_flo m z) a q rfl) e
end
section
variable {F : Fr} {δ : Dl} {i : Nat} {s : Sh} {d : U} {ty : TE} {wk : M U}
end
end UX

set_option Elab.async false
set_option linter.all false
set_option maxRecDepth 100000
set_option maxHeartbeats 4000000
set_option autoImplicit false
namespace UX
open PySem PySem.Spec PyProof.Rows L2 UY
open EL (Ex RB BOk Bn TK rMulU rEqU)
section
open PySem.Calls PyProof.V
variable {prog : Program} {w : World} {K K' : Type} [DecidableEq K] [DecidableEq K'] {knd : HeapKind prog w K} {knb : KeyKind prog w K'} {A : Around} {E : Value → Shared → Prop} {s : Shared}
end
section
variable {F : Fr}
end
end UX

set_option Elab.async false
set_option linter.all false
set_option maxRecDepth 100000
set_option maxHeartbeats 4000000
set_option autoImplicit false
namespace UY
open PySem PySem.Spec PyProof.Rows L2
section
variable {X : Cx}
end
end UY
namespace UX
open PySem PySem.Spec PyProof.Rows L2 UY
open EL (Ex RB BOk Bn TK)
section
variable {F : Fr} {S L : Type} {δ : Dl} {δn : S → Dl} {δl : L → Dl} {t2 : TS} {i : Nat} {tx : TE}
end
end UX

set_option Elab.async false
set_option linter.all false
set_option maxRecDepth 100000
set_option maxHeartbeats 4000000
set_option autoImplicit false
namespace UY
open PySem PySem.Spec PyProof.Rows L2 UX
open EL (Ex RB BOk Bn TK)
section
variable {F : Fr} {δ : Dl} {ta tb : TE} {wa wb : M U}
end
end UY

set_option Elab.async false
set_option linter.all false
set_option maxRecDepth 100000
set_option maxHeartbeats 4000000
set_option autoImplicit false
namespace UY
open PySem PySem.Spec PyProof.Rows L2
end UY
namespace UX
open PySem PySem.Spec PyProof.Rows L2 UY
open EL (Ex RB BOk Bn TK)
section
variable {F : Fr} {os : Os} {as as' : SA} {st st' : Sto} {γ : List (U × V)} {H H' : Hp} {σ : L2.St} {δ : Dl} {d : Addr} {u0 : HO} {od : Obj}
end
section
variable {F : Fr} {S L : Type} {δ : Dl} {g : TG} {tb : TS} {td : TE} {wd : M U} {δ2 : L → Dl}
end
end UX

set_option Elab.async false
set_option linter.all false
set_option maxRecDepth 100000
set_option maxHeartbeats 4000000
set_option autoImplicit false
namespace UY
open PySem PySem.Spec PyProof.Rows L2 UX
open EL (Ex RB BOk Bn TK)
section
variable {X : Cx}
end
section
variable {F : Fr}
end
end UY

set_option Elab.async false
set_option linter.all false
set_option maxRecDepth 100000
set_option maxHeartbeats 4000000
set_option autoImplicit false
namespace UY
open PySem PySem.Spec PyProof.Rows L2 UX
open EL (Ex RB BOk Bn TK rSlU cut)
section
variable {X : Cx}
end
section
variable {F : Fr}
end
section
variable {F : Fr} {δ : Dl} {te : TE} {wa : M U}
end
end UY

set_option Elab.async false
set_option linter.all false
set_option maxRecDepth 100000
set_option maxHeartbeats 4000000
set_option autoImplicit false
namespace UX
open PySem PySem.Spec PyProof.Rows L2
open EL (Ex RB BOk Bn TK FnG okG)
def exU (c : Str) : U := .dct [.inr c] []
def unEx : U → Option Str
  | .dct [.inr c] [] => some c
  | _ => none
theorem unEx_inv {u : U} {c : Str} (h : unEx u = some c) : u = exU c := by
  unfold unEx at h
  split at h
  · cases h; rfl
  · cases h
theorem im_ex {G : Cxt} {rs : List Addr} {B : Bn} {c : Str} {v : V} {H : Hp} : ¬ im G rs B (exU c) v H := by
  rintro ⟨a, vs, _, _, _, l, _⟩
  exact nomatch l
structure RtE (F : Fr) (as : SA) (st : Sto) (H : Hp) : Prop where
  rel : Go F.as0 as F.H0 H
  ok : BOk (ban F [] as) H
  nd : (fl as).Nodup
  nb : ∀ a ∈ fl as, ¬ F.B a
  sto : StOk F.G (ban F [] as) (rts as) as st H
section
variable {F : Fr} {os : Os} {as as' : SA} {st st' : Sto} {γ : List (U × V)} {H H' : Hp} {σ : L2.St} {δ : Dl}
end
def PostX (F : Fr) {S L : Type} (D : Ends) (W : WX) (γ : List (U × V)) (st : Sto) (δn : S → Dl) (δl : L → Dl) (δx : Dl) : Out S L → Prop
  | .nx s => ∀ os as σ H, SDo F os as st γ H σ (δn s) → D.nx σ H
  | .rt u => match unEx u with
    | some c => ∀ os as σ H, SDo F os as st γ H σ δx → W (.ref (F.G.at_ c)) none σ H
    | none => ∀ as v H, Rt F as st H u v → D.rt v H
  | .bk l => ∀ os as σ H, SDo F os as st γ H σ (δl l) → D.bk σ H
  | .ct l => ∀ os as σ H, SDo F os as st γ H σ (δl l) → D.ct σ H
def BlkX (F : Fr) (W : WX) {S L : Type} (t : TS) (δ : Dl) (w : M (Out S L)) (δn : S → Dl) (δl : L → Dl) (δx : Dl) : Prop := ∀ D os as st γ σ H o st', SDo F os as st γ H σ δ → w st = some (.ok o, st') → PostX F D W γ st' δn δl δx o → t D σ H
section
variable {F : Fr} {W : WX} {S S1 L : Type} {δ δx : Dl} {te ta tb : TE} {tt : TT} {w wa wb : M U} {wt : M Bool} {t t1 t2 u1 : TS} {δn : S → Dl} {δ1 : S1 → Dl} {δl : L → Dl}
theorem Blk.x {wo : M (Out S L)} (h : Blk F t δ wo δn δl) : BlkX F W t δ wo δn δl δx := fun D os as st γ σ H o st' Q q P => h D os as st γ σ H o st' Q q (by
  cases o with
  | nx s => exact P
  | bk l => exact P
  | ct l => exact P
  | rt u =>
    intro as v H r
    cases e : unEx u with
    | none =>
      have P : (match unEx u with | some c => _ | none => _) := P
      rw [e] at P
      exact P as v H r
    | some c =>
      rw [unEx_inv e] at r
      exact absurd r.im im_ex)
end
end UX

set_option Elab.async false
set_option linter.all false
set_option maxRecDepth 100000
set_option maxHeartbeats 4000000
set_option autoImplicit false
namespace UX
open PySem PySem.Spec PyProof.Rows L2
open EL (Ex RB BOk Bn TK FnG okG)
section
variable {P : Program} {w : World} {K : PySem.W.Frag} {mg : Str → Option Value} {bs : Heap} {x qu : Str} {pa : Arguments} {bo : List Stmt} {sc : Scope} {dv : List V} {kw : List (Str × V)} {f : Addr} {fd : FuncData}
end
section
variable {X : Cx} {CX : CXT} {k : Nat} {f : Addr} {fd : FuncData} {ps : List Str} {sp : Sp} {E : L2.St → XK} {x : Str} {p pos : Pos} {e : Expr} {es : List Expr} {t : TA}
end
section
variable {F : Fr} {S L : Type} {δ δx : Dl} {δn : S → Dl} {δl : L → Dl}
end
end UX

set_option Elab.async false
set_option linter.all false
set_option maxRecDepth 100000
set_option maxHeartbeats 4000000
set_option autoImplicit false
namespace L2
open PySem PySem.Spec PyProof.Rows
section
variable {X : Cx} {pins : List (Addr × Obj)} {σ : L2.St} {H : Hp} {s : Shared} {a C : Addr} {oe : Obj} {vs : Array Value}
end
section
variable {X : Cx} {x n y : Str} {c : Value} {i j : Nat} {body : List Stmt} {np pos pos' py pn' pa : Pos} {tb : WX → TS} {Wout : WX}
end
end L2

set_option Elab.async false
set_option linter.all false
set_option maxRecDepth 100000
set_option maxHeartbeats 4000000
set_option autoImplicit false
namespace UX
open PySem PySem.Spec PyProof.Rows L2
open EL (Ex RB BOk Bn TK)
section
variable {X : Cx} {K : PySem.W.Frag}
end
section
variable {F : Fr} {δ : Dl} {ta tl : TE} {wa : M U}
end
section
variable {F : Fr} {S L : Type} {δ δx : Dl} {δn : S → Dl} {δl : L → Dl}
end
end UX

set_option Elab.async false
set_option linter.all false
set_option maxRecDepth 100000
set_option maxHeartbeats 4000000
set_option autoImplicit false
namespace UX
open PySem PySem.Spec PyProof.Rows L2
open EL (Ex RB BOk Bn TK)
section
variable {F : Fr} {W : WX} {S S1 L : Type} {δ δx : Dl} {te ta tb : TE} {tt : TT} {w wa wb : M U} {wt : M Bool} {t t1 t2 : TS} {δn : S → Dl} {δl : L → Dl}
end
section
variable {P : Program} {w : World} {K : PySem.W.Frag} {mg : Str → Option Value} {bs : Heap} {x qu : Str} {pa : Arguments} {bo : List Stmt} {sc : Scope} {dv : List V} {kw : List (Str × V)} {f : Addr} {fd : FuncData}
end
end UX

set_option Elab.async false
set_option linter.all false
set_option maxRecDepth 100000
set_option maxHeartbeats 4000000
set_option autoImplicit false
namespace UX
open PySem PySem.Spec PyProof.Rows L2
section
variable {K : PySem.W.Frag}
structure XcF (K : PySem.W.Frag) (C : Addr) : Prop where
  q : PySem.W.excIn K C He.veBase "ValueError.__new__" = true
  kp : PySem.W.keepIn K (.ref C) = true
  sb : PySem.W.subIn K (.ref C) (.type "BaseException") = some true
  ty : PySem.W.typeIn K (.ref C) = some (.type "type")
end
end UX

set_option Elab.async false
set_option linter.all false
set_option maxRecDepth 100000
set_option maxHeartbeats 4000000
set_option autoImplicit false
namespace GQ
open PySem PySem.SeqAt
open AutoSeq1 (wpAny_loadPart')
open MeetsSeq MeetsSeq2 MeetsSeq3 SeqRoads2
section
variable {prog : Program} {w : World} {A : Around} {R : Result → Shared → Prop}
end
end GQ
namespace UX
open PySem PySem.Spec PyProof.Rows L2
open EL (Ex RB BOk Bn TK)
section
variable {X : Cx} {CX : CXT} {k : Nat} {f C : Addr} {fd : FuncData} {ps : List Str} {sp : Sp} {E : XK}
end
section
variable {F : Fr} {δ : Dl} {ta tb : TE} {wa wb : M U} {E : XK} {f : List U → M U} {c : Str} {g : Bool}
end
section
variable {F : Fr} {W : WX} {S S1 L : Type} {δ δx : Dl} {te ta tb : TE} {tt : TT} {w wa wb : M U} {wt : M Bool} {t t1 t2 : TS} {δn : S → Dl} {δl : L → Dl}
end
end UX

set_option Elab.async false
set_option linter.all false
set_option maxRecDepth 100000
set_option maxHeartbeats 4000000
set_option autoImplicit false
namespace UX
open PySem PySem.Spec PyProof.Rows L2
open EL (Ex RB BOk Bn TK)
def SysD (K : PySem.W.Frag) : Prop := ∃ o, K.lookup sysModules = some o ∧ o.cls = .type "dict"
mutual
inductive Dd (K : PySem.W.Frag) (H : Hp) : V → PyData → Prop
  | non : Dd K H .non .none
  | bl (b : Bool) : Dd K H (.bl b) (.bool b)
  | int (i : Int) : Dd K H (.int i) (.int i)
  | str (x : Str) : Dd K H (.str x) (.str x)
  | lst {a : Addr} {xs : List V} {ds : List PyData} : SqL K H a xs → DdAll K H xs ds → Dd K H (.ref a) (.list ds)
  | tup {a : Addr} {xs : List V} {ds : List PyData} : SqT K H a xs → DdAll K H xs ds → Dd K H (.ref a) (.tuple ds)
  | dct {a : Addr} {kvs : List (Key × V)} {ds : List (PyData × PyData)} : Rd H a (.dK kvs) → DdKv K H kvs ds → Dd K H (.ref a) (.dict ds)
inductive DdAll (K : PySem.W.Frag) (H : Hp) : List V → List PyData → Prop
  | nil : DdAll K H [] []
  | cons {v : V} {vs : List V} {d : PyData} {ds : List PyData} : Dd K H v d → DdAll K H vs ds → DdAll K H (v :: vs) (d :: ds)
inductive DdKv (K : PySem.W.Frag) (H : Hp) : List (Key × V) → List (PyData × PyData) → Prop
  | nil : DdKv K H [] []
  | int {i : Int} {v : V} {kvs : List (Key × V)} {d : PyData} {ds : List (PyData × PyData)} : Dd K H v d → DdKv K H kvs ds → DdKv K H ((.inl i, v) :: kvs) ((.int i, d) :: ds)
  | str {x : Str} {v : V} {kvs : List (Key × V)} {d : PyData} {ds : List (PyData × PyData)} : Dd K H v d → DdKv K H kvs ds → DdKv K H ((.inr x, v) :: kvs) ((.str x, d) :: ds)
end
section
variable {X : Cx} {pins : List (Addr × Obj)} {σ : L2.St} {H : Hp} {s : Shared}
theorem SysD.off {K : PySem.W.Frag} {h : Heap} (hS : SysD K) (kin : K.In h) {a : Addr} {o : Obj} (e : h.get? a = some o) (hc : o.cls = .type "list") : sysModules ≠ a := fun z => by
  obtain ⟨o1, h1, h2⟩ := hS
  have := kin _ _ h1
  rw [z, e] at this
  cases this
  rw [hc] at h2
  exact absurd h2 (by decide)
mutual
theorem Dd.reads (hS : SysD X.K) (I : Inv X pins σ H s) : ∀ {d : PyData} {v : V} {u : Value}, Dd X.K H v d → RelV v u → ∃ as, Reads s.heap u d as ∧ sysModules ∉ as
  | _, _, _, .non, r => by cases r; exact ⟨_, Reads.none, fun z => nomatch z⟩
  | _, _, _, .bl b, r => by cases r; exact ⟨_, Reads.bool b, fun z => nomatch z⟩
  | _, _, _, .int i, r => by obtain ⟨t, rfl⟩ := r; exact ⟨_, Reads.int i t, fun z => nomatch z⟩
  | _, _, _, .str x, r => by obtain ⟨t, rfl⟩ := r; exact ⟨_, Reads.str x t, fun z => nomatch z⟩
  | _, _, _, .lst hs ha, r => by
    cases r
    obtain ⟨its, rv, ⟨o, n, ho, hc, _, hd⟩, _⟩ := I.list hs
    obtain ⟨as, hr, hn⟩ := Dd.readsAll hS I ha rv
    refine ⟨_, Reads.list ho hc hd (by simpa using hr), fun z => ?_⟩
    rcases List.mem_cons.mp z with z | z
    · exact hS.off I.kIn ho hc z
    · exact hn z
  | _, _, _, .tup hs ha, r => by
    cases r
    obtain ⟨its, rv, ⟨o, ho, hc, n, hd⟩, _⟩ := I.tuple hs
    obtain ⟨as, hr, hn⟩ := Dd.readsAll hS I ha rv
    exact ⟨_, Reads.tuple ho hc hd (by simpa using hr), hn⟩
  | _, _, _, .dct hs ha, r => by
    cases r
    obtain ⟨_, hsm, vs, kv, o, es, ep, ho, hx, hd, _, pr, _⟩ := dk_rd I.hok hs
    obtain ⟨as, bs, h1, h2, h3, h4⟩ := Dd.readsKv hS I ha kv pr
    refine ⟨_, Reads.dict ho hx.1 hd h1 h2, fun z => ?_⟩
    rcases List.mem_cons.mp z with z | z
    · exact absurd z.symm (by simpa using hsm)
    · rcases List.mem_append.mp z with z | z
      · exact h3 z
      · exact h4 z
theorem Dd.readsAll (hS : SysD X.K) (I : Inv X pins σ H s) : ∀ {ds : List PyData} {vs : List V} {us : List Value}, DdAll X.K H vs ds → Vals vs us → ∃ as, ReadsAll s.heap us ds as ∧ sysModules ∉ as
  | _, _, _, .nil, r => by cases r; exact ⟨_, ReadsAll.nil, fun z => nomatch z⟩
  | _, _, _, .cons h1 h2, r => by
    cases r with
    | cons r1 r2 =>
      obtain ⟨as, q1, n1⟩ := Dd.reads hS I h1 r1
      obtain ⟨bs, q2, n2⟩ := Dd.readsAll hS I h2 r2
      exact ⟨_, ReadsAll.cons q1 q2, fun z => (List.mem_append.mp z).elim n1 n2⟩
theorem Dd.readsKv (hS : SysD X.K) (I : Inv X pins σ H s) : ∀ {kvs : List (Key × V)} {ds : List (PyData × PyData)} {vs : List (Key × Value)} {es : List DictEntry}, DdKv X.K H kvs ds → KV kvs vs → Pairs (mixKind X.prog X.w) es vs →
    ∃ as bs, ReadsAll s.heap (es.map (·.key)) (ds.map (·.1)) as ∧ ReadsAll s.heap (es.map (·.val)) (ds.map (·.2)) bs ∧ sysModules ∉ as ∧ sysModules ∉ bs
  | _, _, _, _, .nil, r, p => by
    cases r
    cases p
    exact ⟨_, _, ReadsAll.nil, ReadsAll.nil, (fun z => nomatch z), (fun z => nomatch z)⟩
  | _, _, _, _, .int (i := i) h1 h2, r, p => by
    cases r with
    | cons r1 r2 =>
      cases p with
      | cons p1 p2 p3 =>
        obtain ⟨as, bs, q1, q2, n1, n2⟩ := Dd.readsKv hS I h2 r2 p3
        obtain ⟨cs, q3, n3⟩ := Dd.reads hS I h1 (by rw [← p2] at r1; exact r1.2)
        have p1 : keyIs _ _ = true := p1
        rw [← r1.1] at p1
        obtain ⟨t, et⟩ := Value.isInt_shape (k := i) p1
        refine ⟨_, _, ReadsAll.cons (as := []) (by dsimp only; rw [et]; exact Reads.int i t) q1, ReadsAll.cons q3 q2, n1, fun z => (List.mem_append.mp z).elim n3 n2⟩
  | _, _, _, _, .str (x := x) h1 h2, r, p => by
    cases r with
    | cons r1 r2 =>
      cases p with
      | cons p1 p2 p3 =>
        obtain ⟨as, bs, q1, q2, n1, n2⟩ := Dd.readsKv hS I h2 r2 p3
        obtain ⟨cs, q3, n3⟩ := Dd.reads hS I h1 (by rw [← p2] at r1; exact r1.2)
        have p1 : keyIs _ _ = true := p1
        rw [← r1.1] at p1
        obtain ⟨t, et⟩ := Value.isStrOf_shape (x := x) p1
        refine ⟨_, _, ReadsAll.cons (as := []) (by dsimp only; rw [et]; exact Reads.str x t) q1, ReadsAll.cons q3 q2, n1, fun z => (List.mem_append.mp z).elim n3 n2⟩
end
end
section
variable {X : Cx}
def rReprE (K : PySem.W.Frag) : List V → Hp → VK → Prop := fun xs H Q => ∃ v d, xs = [v] ∧ Dd K H v d ∧ d.showable = true ∧ d.depth ≤ 64 ∧ d.shown.length ≤ sizeLine ∧ Q (.str d.shown) H
theorem call_reprE (hS : SysD X.K) (gd : X.A.guards = some []) (hu : X.A.units + 66 < cLine) : CallR X (.builtin "repr") (rReprE X.K) := by
  intro pins s σ H xs us Q I r h
  obtain ⟨v, d, rfl, hd, sh, dp, sz, q⟩ := h
  obtain ⟨u, rfl, ru⟩ := vals1 r
  obtain ⟨as, rd, hn⟩ := Dd.reads hS I hd ru
  have fin : ∀ (h' : Heap) (t : Tok) (tk : Nat), (∀ b o, s.heap.get? b = some o → h'.get? b = some o) → EP X pins σ Q (.str d.shown t) { s with heap := h', toks := tk } := fun h' t tk hk => ⟨.str d.shown, H, I.kept hk, ⟨t, rfl⟩, q⟩
  cases hd with
  | lst a b => cases ru; exact repr_of_reads' rd sh (fun _ => hn) gd (by omega) (fun _ _ z => z) fin sz
  | tup a b => cases ru; exact repr_of_reads' rd sh (fun _ => hn) gd (by omega) (fun _ _ z => z) fin sz
  | dct a b => cases ru; exact repr_of_reads' rd sh (fun _ => hn) gd (by omega) (fun _ _ z => z) fin sz
  | non => cases ru; rw [PyData.shown_none] at fin; exact PySem.P.repr_of_none (fin s.heap _ _ fun _ _ z => z)
  | bl b => cases ru; rw [PyData.shown_bool] at fin; exact PySem.P.repr_of_bool (by cases b <;> exact fin s.heap _ _ fun _ _ z => z)
  | int i => obtain ⟨t, rfl⟩ := ru; rw [PyData.shown_int] at fin; exact PySem.P.repr_of_int (by simpa [PyData.showable] using sh) (fin s.heap _ _ fun _ _ z => z)
  | str z => obtain ⟨t, rfl⟩ := ru; rw [PyData.shown_str] at fin sz; exact PySem.P.repr_of_str (fin s.heap _ _ fun _ _ z => z) sz
end
def kD : Key → PyData
  | .inl i => .int i
  | .inr x => .str x
mutual
def pdD : U → Option PyData
  | .non => some .none
  | .bl b => some (.bool b)
  | .int i => some (.int i)
  | .str x => some (.str x)
  | .tup us => (pdsD us).map .tuple
  | .lst us => (pdsD us).map .list
  | .dct ks us => (pdsD us).map fun ds => .dict ((ks.map kD).zip ds)
  | .dcT _ _ => none
  | .dcN _ _ => none
  | .obj _ _ _ => none
  | .top _ => none
  | .frl us => (pdsD us).map .list
  | .loc _ => none
  | .exc _ => none
def pdsD : List U → Option (List PyData)
  | [] => some []
  | u :: us => match pdD u, pdsD us with
    | some d, some ds => some (d :: ds)
    | _, _ => none
end
section
variable {G : Cxt} {rs : List Addr} {B B' : Bn} {H H' : Hp}
theorem ddKv_of {K : PySem.W.Frag} {H : Hp} : ∀ {ks : List Key} {vs : List V} {ds : List PyData}, DdAll K H vs ds → DdKv K H (ks.zip vs) ((ks.map UX.kD).zip ds)
  | [], _, _, _ => .nil
  | _ :: _, _, _, .nil => .nil
  | .inl _ :: _, _, _, .cons h1 h2 => .int h1 (ddKv_of h2)
  | .inr _ :: _, _, _, .cons h1 h2 => .str h1 (ddKv_of h2)
mutual
theorem im_dd : ∀ (u : U) (v : V) (d : PyData), im G rs B u v H → pdD u = some d → Dd G.K H v d
  | .non, _, _, h, e => by cases h; cases e; exact .non
  | .bl _, _, _, h, e => by cases h; cases e; exact .bl _
  | .int _, _, _, h, e => by cases h; cases e; exact .int _
  | .str _, _, _, h, e => by cases h; cases e; exact .str _
  | .tup us, _, d, ⟨a, vs, e, s, q⟩, e' => by
    subst e
    obtain ⟨ds, e1, rfl⟩ := Option.map_eq_some_iff.mp (show (pdsD us).map .tuple = some d from e')
    exact .tup (EL.sqT_of s) (imAll_dd us vs ds q e1)
  | .lst us, _, d, ⟨a, vs, e, _, s, q⟩, e' => by
    subst e
    obtain ⟨ds, e1, rfl⟩ := Option.map_eq_some_iff.mp (show (pdsD us).map .list = some d from e')
    exact .lst (.inl (.inl s)) (imAll_dd us vs ds q e1)
  | .dct ks us, _, d, ⟨a, vs, e, _, s, l, q⟩, e' => by
    subst e
    obtain ⟨ds, e1, rfl⟩ := Option.map_eq_some_iff.mp (show (pdsD us).map (fun ds => PyData.dict ((ks.map UX.kD).zip ds)) = some d from e')
    exact .dct s (ddKv_of (imAll_dd us vs ds q e1))
  | .dcT _ _, _, _, _, e' => by cases e'
  | .dcN _ _, _, _, _, e' => by cases e'
  | .obj _ _ _, _, _, _, e' => by cases e'
  | .top _, _, _, _, e' => by cases e'
  | .frl us, _, d, ⟨a, vs, e, s, q⟩, e' => by
    subst e
    obtain ⟨ds, e1, rfl⟩ := Option.map_eq_some_iff.mp (show (pdsD us).map .list = some d from e')
    exact .lst s.sq (imAll_dd us vs ds q e1)
  | .loc _, _, _, _, e' => by cases e'
  | .exc _, _, _, _, e' => by cases e'
theorem imAll_dd : ∀ (us : List U) (vs : List V) (ds : List PyData), imAll G rs B us vs H → pdsD us = some ds → DdAll G.K H vs ds
  | [], _, _, h, e => by rw [show _ = _ from h]; cases e; exact .nil
  | u :: us, _, ds, ⟨v, w, e, h1, h2⟩, e' => by
    subst e
    rw [pdsD] at e'
    cases e1 : pdD u with
    | none => rw [e1] at e'; cases e'
    | some d =>
      cases e2 : pdsD us with
      | none => rw [e1, e2] at e'; cases e'
      | some ds => rw [e1, e2] at e'; cases e'; exact .cons (im_dd u v d h1 e1) (imAll_dd us w ds h2 e2)
end
end
def shD (d : PyData) : Bool := d.showable && (decide (d.depth ≤ 64) && decide (d.shown.length ≤ sizeLine))
def reprE (u : U) : Option U := match pdD u with
  | some d => if shD d = true then some (.str d.shown) else none
  | none => none
theorem call_reprEK {X : Cx} {K : PySem.W.Frag} (hS : SysD K) (gd : X.A.guards = some []) (hu : X.A.units + 66 < cLine) (h : X.K = K := by rfl) : CallR X (.builtin "repr") (rReprE K) := by
  subst h
  exact call_reprE hS gd hu
section
variable {F : Fr}
theorem ok_reprE : Op1Ok F (rReprE F.G.K) reprE := fun os as H a c x ok ha e QQ k => by
  unfold reprE at e
  cases e1 : pdD a with
  | none => rw [e1] at e; cases e
  | some d =>
    rw [e1] at e
    simp [shD] at e
    obtain ⟨⟨h1, h3, h4⟩, rfl⟩ := e
    exact ⟨x, d, rfl, im_dd _ _ _ (rd_im0 ha) e1, h1, h3, h4, k _ H (Ex.refl H) rfl⟩
end
def sysB (K : PySem.W.Frag) : Bool := match K.lookup sysModules with
  | some ⟨.type c, _, _, _⟩ => decide (c = "dict")
  | _ => false
theorem sysB_ok {K : PySem.W.Frag} (h : sysB K = true) : SysD K := by
  unfold sysB at h
  split at h
  · rename_i e
    exact ⟨_, e, by rw [of_decide_eq_true h]⟩
  · cases h
def obsSG (n : Nat) (fa : List He.Fa) (fn : List He.DefD) (ts : List He.Tab) (vs : List Vls) (xs : List FaX) (g : Addr → Option Obj) : AlU × Bool := (obsV fa fn ts vs xs (He.frG g (sysModules :: He.asD g n)), sysB (He.frG g (sysModules :: He.asD g n)))
def SaysS (fa : List He.Fa) (fn : List He.DefD) (ts : List He.Tab) (vs : List Vls) (xs : List FaX) (w : World) (K : PySem.W.Frag) : Prop := SaysV fa fn ts vs xs w K ∧ SysD K
def hookS (n : Nat) (fa : List He.Fa) (fn : List He.DefD) (ts : List He.Tab) (vs : List Vls) (xs : List FaX) : PySem.W.Hook where
  α := AlU × Bool
  obs := fun s => obsSG n fa fn ts vs xs s.heap.get?
  val := fun w => (valU fn ts w, true)
  says := fun w h => ∃ K : PySem.W.Frag, K.In h ∧ SaysS fa fn ts vs xs w K
  of := fun _ _ e => ⟨_, He.frG_in, congrArg Prod.fst e, sysB_ok (congrArg Prod.snd e)⟩
  keeps := fun _ _ _ ⟨K, hK, c⟩ k => ⟨K, PySem.W.Frag.In.keeps hK k, c⟩
theorem obsSG_eq {n : Nat} {fa : List He.Fa} {fn : List He.DefD} {ts : List He.Tab} {vs : List Vls} {xs : List FaX} {g : Addr → Option Obj} {s : Shared} (h : ∀ a, g a = s.heap.get? a) : obsSG n fa fn ts vs xs g = (hookS n fa fn ts vs xs).obs s := by
  obtain rfl : g = s.heap.get? := funext h
  rfl
end UX

set_option Elab.async false
set_option linter.all false
set_option maxRecDepth 100000
set_option maxHeartbeats 4000000
set_option autoImplicit false
namespace UX
open PySem PySem.Spec PyProof.Rows L2 UY
open EL (Ex RB BOk Bn TK)
mutual
def tf : NestedKey → Bool
  | .none => true
  | .num _ => true
  | .text _ => false
  | .tup ks => tfs ks
def tfs : List NestedKey → Bool
  | [] => true
  | k :: ks => tf k && tfs ks
end
mutual
theorem nk_tf : ∀ (u : U) (k : NestedKey), nkU u = some k → tf k = true
  | .non, _, e => by cases e; rfl
  | .bl _, _, e => by cases e; rfl
  | .int _, _, e => by cases e; rfl
  | .tup us, k, e => by
    obtain ⟨ks, e1, rfl⟩ := Option.map_eq_some_iff.mp (show (nkAll us).map .tup = some k from e)
    exact nks_tf us ks e1
  | .str _, _, e => by cases e
  | .lst _, _, e => by cases e
  | .dct _ _, _, e => by cases e
  | .dcT _ _, _, e => by cases e
  | .dcN _ _, _, e => by cases e
  | .obj _ _ _, _, e => by cases e
  | .top _, _, e => by cases e
  | .frl _, _, e => by cases e
  | .loc _, _, e => by cases e
  | .exc _, _, e => by cases e
theorem nks_tf : ∀ (us : List U) (ks : List NestedKey), nkAll us = some ks → tfs ks = true
  | [], _, e => by cases e; rfl
  | u :: us, ks, e => by
    rw [nkAll] at e
    cases e1 : nkU u with
    | none => rw [e1] at e; cases e
    | some k =>
      cases e2 : nkAll us with
      | none => rw [e1, e2] at e; cases e
      | some ks' =>
        rw [e1, e2] at e
        cases e
        show (tf k && tfs ks') = true
        rw [nk_tf u k e1, nks_tf us ks' e2]; rfl
end
section
variable {P : Program} {w : World} {H : Hp} {h : Heap} {G : Cxt} {rs : List Addr} {B : Bn}
mutual
theorem nk_is (ok : HOk P w H h) : ∀ (u : U) (k : NestedKey) (v : V) (x : Value), nkU u = some k → im G rs B u v H → RelV v x → NestedIs h k x
  | .non, _, _, _, e, p, r => by
    cases e; cases p
    cases (show _ = Value.none from r); exact .none
  | .bl b, _, _, _, e, p, r => by
    cases e; cases p
    cases (show _ = Value.bool b from r); exact .bool rfl
  | .int i, _, _, _, e, p, r => by
    cases e; cases p
    obtain ⟨t, rfl⟩ := (show ∃ t, _ = Value.int i t from r); exact .int i t
  | .tup us, k, _, _, e, p, r => by
    obtain ⟨ks, e1, rfl⟩ := Option.map_eq_some_iff.mp (show (nkAll us).map .tup = some k from e)
    obtain ⟨a, vs, rfl, s, q⟩ := p
    cases (show _ = Value.ref a from r)
    obtain ⟨_, its, rr, o, h1, h2, n, h3⟩ := (show ObjOk P w H h a (.tup vs) from ok a _ s)
    exact .tup h1 h2 h3 (nks_is ok us ks vs its e1 q rr)
  | .str _, _, _, _, e, _, _ => by cases e
  | .lst _, _, _, _, e, _, _ => by cases e
  | .dct _ _, _, _, _, e, _, _ => by cases e
  | .dcT _ _, _, _, _, e, _, _ => by cases e
  | .dcN _ _, _, _, _, e, _, _ => by cases e
  | .obj _ _ _, _, _, _, e, _, _ => by cases e
  | .top _, _, _, _, e, _, _ => by cases e
  | .frl _, _, _, _, e, _, _ => by cases e
  | .loc _, _, _, _, e, _, _ => by cases e
  | .exc _, _, _, _, e, _, _ => by cases e
theorem nks_is (ok : HOk P w H h) : ∀ (us : List U) (ks : List NestedKey) (vs : List V) (xs : List Value), nkAll us = some ks → imAll G rs B us vs H → Vals vs xs → NestedAll h ks xs
  | [], _, _, _, e, p, r => by
    cases e
    rw [show _ = [] from p] at r
    cases r; exact .nil
  | u :: us, ks, _, xs, e, ⟨v, vr, ev, p1, p2⟩, r => by
    subst ev
    rw [nkAll] at e
    cases e1 : nkU u with
    | none => rw [e1] at e; cases e
    | some k =>
      cases e2 : nkAll us with
      | none => rw [e1, e2] at e; cases e
      | some ks' =>
        rw [e1, e2] at e
        cases e
        cases r with
        | cons r1 r2 => exact .cons (nk_is ok u k v _ e1 p1 r1) (nks_is ok us ks' vr _ e2 p2 r2)
end
def NK (H : Hp) (b : Addr) (k : NestedKey) : Prop := tf k = true ∧ k.depth ≤ 8 ∧ ∀ (P : Program) (w : World) (h : Heap), HOk P w H h → NestedIs h k (.ref b)
def NKs (H : Hp) (kvs : List NP) : Prop := ∀ x ∈ kvs, NK H x.2.1 x.1
theorem nk8_ok {u : U} {k : NestedKey} (e : nk8 u = some k) : nkU u = some k ∧ k.depth ≤ 8 := by
  unfold nk8 at e
  cases e1 : nkU u with
  | none => rw [e1] at e; cases e
  | some k' =>
    rw [e1] at e
    simp only at e
    split at e
    · rename_i d; cases e; exact ⟨rfl, d⟩
    · cases e
theorem NK.of {u : U} {k : NestedKey} {b : Addr} (e : nk8 u = some k) (p : im G rs B u (.ref b) H) : NK H b k :=
  ⟨nk_tf u k (nk8_ok e).1, (nk8_ok e).2, fun _ _ _ ok => nk_is ok u k _ _ (nk8_ok e).1 p rfl⟩
theorem nk8s_cons {u : U} {us : List U} {ks : List NestedKey} (e : nk8s (u :: us) = some ks) : ∃ k ks', nk8 u = some k ∧ nk8s us = some ks' ∧ ks = k :: ks' := by
  rw [nk8s] at e
  cases e1 : nk8 u with
  | none => rw [e1] at e; cases e
  | some k =>
    cases e2 : nk8s us with
    | none => rw [e1, e2] at e; cases e
    | some ks' => rw [e1, e2] at e; cases e; exact ⟨k, ks', rfl, rfl, rfl⟩
theorem NKs.of : ∀ {ks : List U} {kvs : List NP}, nk8s ks = some (kvs.map (·.1)) → imAll G rs B ks (nkA kvs) H → NKs H kvs
  | [], [], _, _ => fun _ m => nomatch m
  | [], _ :: _, e, _ => by cases e
  | u :: us, [], e, p => by obtain ⟨_, _, e1, _⟩ := p; cases e1
  | u :: us, y :: kvs, e, ⟨v, r, ev, p1, p2⟩ => by
    obtain ⟨k, ks', e1, e2, e3⟩ := nk8s_cons e
    cases e3
    cases ev
    intro x m
    rcases List.mem_cons.mp m with rfl | m
    · exact NK.of e1 p1
    · exact NKs.of e2 p2 x m
end
def valN (kvs : List NP) (k : NestedKey) : Option V := (kvs.find? fun x => decide (x.1 = k)).map (·.2.2)
def putN (kvs : List NP) (k : NestedKey) (b : Addr) (v : V) : List NP := if (kvs.any fun x => decide (x.1 = k)) = true then kvs.map fun x => if x.1 = k then (x.1, x.2.1, v) else x else kvs ++ [(k, b, v)]
theorem NKs.put {H : Hp} {kvs : List NP} {k : NestedKey} {b : Addr} {v : V} (h : NKs H kvs) (hb : NK H b k) : NKs H (putN kvs k b v) := by
  unfold putN
  intro x m
  split at m
  · obtain ⟨y, my, e⟩ := List.mem_map.mp m
    split at e
    · rename_i z
      subst e
      exact h y my
    · subst e; exact h y my
  · rcases List.mem_append.mp m with m | m
    · exact h x m
    · rw [List.mem_singleton.mp m]; exact hb
theorem NKV.val {kvs : List NP} {xs : List (NestedKey × Addr × Value)} (r : NKV kvs xs) (k : NestedKey) : RelO (valN kvs k) ((atKey xs k).map (·.2)) := by
  induction r with
  | nil => exact True.intro
  | @cons p q ps qs h t ih =>
    obtain ⟨h1, _, h2⟩ := h
    by_cases e : p.1 = k
    · have e' : q.1 = k := h1.symm.trans e
      have b : atKey (q :: qs) k = some q.2 := by simp [atKey, List.find?_cons, e']
      have a : valN (p :: ps) k = some p.2.2 := by simp [valN, List.find?_cons, e]
      rw [a, b]; exact h2
    · have e' : ¬ q.1 = k := fun z => e (h1.trans z)
      have b : atKey (q :: qs) k = atKey qs k := by simp [atKey, List.find?_cons, e']
      have a : valN (p :: ps) k = valN ps k := by simp [valN, List.find?_cons, e]
      rw [a, b]; exact ih
theorem valN_any (k : NestedKey) : ∀ kvs : List NP, (kvs.any fun x => decide (x.1 = k)) = (valN kvs k).isSome
  | [] => rfl
  | x :: kvs => by
    by_cases e : x.1 = k
    · simp [valN, List.find?_cons, e]
    · have := valN_any k kvs
      simp only [valN] at this ⊢
      simp [List.find?_cons, e]
      simpa using this
theorem NKV.put {kvs : List NP} {xs : List (NestedKey × Addr × Value)} (r : NKV kvs xs) (k : NestedKey) {b : Addr} {y : V} {u : Value} (ry : RelV y u) : NKV (putN kvs k b y) (storedH xs k b u) := by
  have e : (kvs.any fun x => decide (x.1 = k)) = (atKey xs k).isSome := by
    rw [valN_any, (r.val k).isSome_eq, Option.isSome_map]
  unfold putN storedH
  rw [e]
  by_cases q : (atKey xs k).isSome = true
  · rw [if_pos q, if_pos q]
    clear e q
    induction r with
    | nil => exact .nil
    | @cons p q ps qs h t ih =>
      rw [List.map_cons, List.map_cons]
      refine .cons ?_ ih
      obtain ⟨h1, h2, h3⟩ := h
      unfold putAt
      by_cases e : p.1 = k
      · rw [if_pos e, if_pos (h1.symm.trans e)]; exact ⟨h1, h2, ry⟩
      · rw [if_neg e, if_neg (fun z => e (h1.trans z))]; exact ⟨h1, h2, h3⟩
  · rw [if_neg q, if_neg q]; exact Paired.snoc r ⟨rfl, rfl, ry⟩
section
variable {P : Program} {w : World} {H : Hp} {h : Heap} {a : Addr} {kvs : List NP}
theorem NKV.mem {xs : List (NestedKey × Addr × Value)} (r : NKV kvs xs) {x : NestedKey × Addr × Value} (m : x ∈ xs) : ∃ y ∈ kvs, y.1 = x.1 ∧ y.2.1 = x.2.1 := by
  induction r with
  | nil => cases m
  | @cons p q ps qs h t ih =>
    rcases List.mem_cons.mp m with rfl | m
    · exact ⟨p, List.mem_cons_self, h.1, h.2.1⟩
    · obtain ⟨y, my, e⟩ := ih m
      exact ⟨y, List.mem_cons_of_mem _ my, e⟩
end
def NPut (H : Hp) (a : Addr) (y v : V) (H' : Hp) : Prop := ∃ kvs k b, H a = some (DNo a kvs) ∧ NKs H kvs ∧ y = .ref b ∧ NK H b k ∧ kvs.length < sizeLine ∧ H' = upd H a (DNo a (putN kvs k b v))
section
variable {X : Cx} {pins : List (Addr × Obj)} {σ : L2.St} {H : Hp} {s : Shared} {a : Addr} {y v : V} {u r : Value} {o : Option V} {A : Around} {E : Value → Shared → Prop}
end
section
variable {X : Cx} {o i e value : Expr} {pos pos' tpos : Pos} {td ty tv : TE}
end
end UX

set_option Elab.async false
set_option linter.all false
set_option maxRecDepth 100000
set_option maxHeartbeats 4000000
set_option autoImplicit false
namespace UX
open PySem PySem.Spec PyProof.Rows L2 UY
open EL (Ex RB BOk Bn TK)
def idxN (k : NestedKey) : List U → Option Nat
  | [] => none
  | u :: us => if nkU u = some k then some 0 else (idxN k us).map (· + 1)
def ndN (ks : List U) : Bool := match nk8s ks with
  | some nks => decide nks.Nodup
  | none => false
def putNU (d k v : U) : Option U := match d with
  | .dcN ks us => if ks.length < sizeLine ∧ ndN ks = true then match nk8 k with
    | some key => match k with
      | .tup _ => match idxN key ks with
        | some j => some (.dcN ks (us.set j v))
        | none => some (.dcN (ks ++ [k]) (us ++ [v]))
      | _ => none
    | none => none else none
  | _ => none
def isTupU : U → Bool
  | .tup _ => true
  | _ => false
def keysN : U → Option (List U)
  | .dcN ks _ => if ks.all isTupU = true then some ks else none
  | _ => none
theorem nk8s_len : ∀ {ks : List U} {nks : List NestedKey}, nk8s ks = some nks → nks.length = ks.length
  | [], _, e => by cases e; rfl
  | u :: us, _, e => by
    obtain ⟨_, _, _, e2, rfl⟩ := nk8s_cons e
    simp [nk8s_len e2]
theorem nk8s_snoc {k : U} {key : NestedKey} (e : nk8 k = some key) : ∀ {ks : List U} {nks : List NestedKey}, nk8s ks = some nks → nk8s (ks ++ [k]) = some (nks ++ [key])
  | [], _, e1 => by cases e1; show nk8s [k] = _; rw [nk8s, e]; rfl
  | u :: us, _, e1 => by
    obtain ⟨_, _, h1, h2, rfl⟩ := nk8s_cons e1
    show nk8s (u :: (us ++ [k])) = _
    rw [nk8s, h1, nk8s_snoc e h2]; rfl
section
variable {F : Fr} {os : Os} {as : SA} {H : Hp}
end
section
variable {F : Fr} {δ : Dl} {td ty tx ta tb : TE} {wd wk wx wa wb : M U}
end
theorem idxN_mem {k : NestedKey} : ∀ {ks : List U} {kvs : List NP}, nk8s ks = some (kvs.map (·.1)) → (idxN k ks = none → (kvs.any fun x => decide (x.1 = k)) = false) ∧ ∀ (b : Addr) (v : V) (j : Nat), idxN k ks = some j → (kvs.map (·.1)).Nodup →
    (kvs.any fun x => decide (x.1 = k)) = true ∧ (kvs.map fun x => if x.1 = k then (x.1, x.2.1, v) else x).map (·.1) = kvs.map (·.1) ∧ nkA (kvs.map fun x => if x.1 = k then (x.1, x.2.1, v) else x) = nkA kvs ∧ nkV (kvs.map fun x => if x.1 = k then (x.1, x.2.1, v) else x) = (nkV kvs).set j v
  | [], [], _ => ⟨fun _ => rfl, fun _ _ j e => by cases e⟩
  | [], _ :: _, e => by cases e
  | u :: us, [], e => by obtain ⟨_, _, _, _, e3⟩ := nk8s_cons e; cases e3
  | u :: us, y :: kvs, e => by
    obtain ⟨k', ks', e1, e2, e3⟩ := nk8s_cons e
    cases e3
    have ih := idxN_mem (k := k) (ks := us) (kvs := kvs) e2
    have hu : nkU u = some y.1 := (nk8_ok e1).1
    unfold idxN
    by_cases c : y.1 = k
    · rw [if_pos (by rw [hu, c])]
      refine ⟨fun z => (nomatch z), fun b v j ej nd => ?_⟩
      cases ej
      have nd' := List.nodup_cons.mp (show (y.1 :: kvs.map (·.1)).Nodup from nd)
      have same : (kvs.map fun x => if x.1 = k then (x.1, x.2.1, v) else x) = kvs := by
        have : (kvs.map fun x => if x.1 = k then (x.1, x.2.1, v) else x) = kvs.map id := List.map_congr_left fun x m => if_neg fun z => nd'.1 (by rw [c, ← z]; exact List.mem_map_of_mem (f := (·.1)) m)
        rw [this, List.map_id]
      refine ⟨by simp [c], ?_, ?_, ?_⟩
      · rw [List.map_cons, same, if_pos c]; rfl
      · rw [List.map_cons, same, if_pos c]; rfl
      · rw [List.map_cons, same, if_pos c]; rfl
    · rw [if_neg (by rw [hu]; exact fun z => c (Option.some.inj z))]
      refine ⟨fun z => ?_, fun b v j ej nd => ?_⟩
      · have : idxN k us = none := by cases h : idxN k us with | none => rfl | some j => rw [h] at z; cases z
        simp [c, ih.1 this]
      · obtain ⟨j', ej', rfl⟩ := Option.map_eq_some_iff.mp ej
        have nd' := List.nodup_cons.mp (show (y.1 :: kvs.map (·.1)).Nodup from nd)
        obtain ⟨h1, h2, h3, h4⟩ := ih.2 b v j' ej' nd'.2
        refine ⟨by rw [List.any_cons, h1, Bool.or_true], ?_, ?_, ?_⟩
        · rw [List.map_cons, if_neg c, List.map_cons, h2]; rfl
        · unfold nkA at h3 ⊢; rw [List.map_cons, if_neg c, List.map_cons, h3]; rfl
        · unfold nkV at h4 ⊢; rw [List.map_cons, if_neg c, List.map_cons, h4]; rfl
section
variable {F : Fr} {S L : Type} {δ : Dl} {δn : S → Dl} {δl : L → Dl} {t2 : TS} {i : Nat}
theorem SDo.putN {os : Os} {as : SA} {st : Sto} {γ : List (U × V)} {σ : L2.St} {H : Hp} {d k x d' : U} {y v : V} (Q : SDo F os as st γ H σ δ) (hd : δ[i]? = some (some (.own (.dct .leaf) d))) (e : putNU d k x = some d') (pk : im F.G (rts as) (ban F os as) k y H) (px : im F.G (rts as) (ban F os as) x v H) :
    ∃ a H', σ[i]? = some (some (.ref a)) ∧ NPut H a y v H' ∧ SDo F os as st γ H' σ (δ.set i (some (.own (.dct .leaf) d'))) := by
  obtain ⟨v0, e0, A, m, o⟩ := Q.get hd
  cases d with
  | dcN ks us =>
    obtain ⟨a, kvs, e1, e2, e3, l, hk, hv⟩ := own_dcN.mp o
    subst e1 e2
    simp only [putNU] at e
    split at e
    · rename_i hl
      have ll := nk8s_len l
      rw [List.length_map] at ll
      have nd : (kvs.map (·.1)).Nodup := by
        have := hl.2
        unfold ndN at this
        rw [l] at this
        exact of_decide_eq_true this
      cases ek : nk8 k with
      | none => rw [ek] at e; cases e
      | some key =>
        rw [ek] at e
        simp only at e
        cases k with
        | tup kus =>
          simp only at e
          obtain ⟨b, ws, rfl, hb, hw⟩ := id pk
          have hB : NK H b key := NK.of ek pk
          have hK : NKs H kvs := NKs.of l hk
          have hz : kvs.length < sizeLine := by omega
          refine ⟨a, _, e0, ⟨kvs, key, b, e3, hK, rfl, hB, hz, rfl⟩, ?_⟩
          have hi := idxN_mem (k := key) l
          refine Q.redo m e0 e3 (fun _ z => nomatch z) (fun _ _ z => nomatch z) fun t => ?_
          cases ei : idxN key ks with
          | some j =>
            rw [ei] at e
            cases e
            obtain ⟨h1, h2, h3, h4⟩ := hi.2 b v j ei nd
            refine own_dcN.mpr ⟨a, UX.putN kvs key b v, rfl, rfl, upd_same, ?_, ?_, ?_⟩
            · unfold UX.putN; rw [if_pos h1, h2]; exact l
            · have ee : nkA (UX.putN kvs key b v) = nkA kvs := by unfold UX.putN; rw [if_pos h1, h3]
              rw [ee]; exact t hk
            · have ee : nkV (UX.putN kvs key b v) = (nkV kvs).set j v := by unfold UX.putN; rw [if_pos h1, h4]
              rw [ee]; exact t (imAll_set hv px)
          | none =>
            rw [ei] at e
            cases e
            have h1 := hi.1 ei
            have n1 : ¬ (kvs.any fun x => decide (x.1 = key)) = true := by rw [h1]; exact fun z => nomatch z
            refine own_dcN.mpr ⟨a, UX.putN kvs key b v, rfl, rfl, upd_same, ?_, ?_, ?_⟩
            · unfold UX.putN; rw [if_neg n1, List.map_append]; exact nk8s_snoc ek l
            · have ee : nkA (UX.putN kvs key b v) = nkA kvs ++ [.ref b] := by unfold UX.putN nkA; rw [if_neg n1, List.map_append]; rfl
              rw [ee]; exact t (imAll_snoc hk pk)
            · have ee : nkV (UX.putN kvs key b v) = nkV kvs ++ [v] := by unfold UX.putN nkV; rw [if_neg n1, List.map_append]; rfl
              rw [ee]; exact t (imAll_snoc hv px)
        | _ => cases e
    · cases e
  | _ => cases e
end
section
variable {F : Fr} {δ : Dl}
end
def keysNW (w : M U) : M (List U) := .bind w fun u => .o (keysN u)
section
variable {F : Fr} {δ : Dl} {wi : TI} {g : TG} {tt : TT} {te : TE} {vs : List Nat} {wl : M (List U)}
end
section
variable {F : Fr} {S L : Type} {δ : Dl} {wi : TI} {g : TG} {tb : TS} {wl : M (List U)} {δl : S → Dl} {δ2 : L → Dl}
end
end UX

set_option Elab.async false
set_option linter.all false
set_option maxRecDepth 100000
set_option maxHeartbeats 4000000
set_option autoImplicit false
namespace UX
open PySem PySem.Spec PyProof.Rows L2 UY
open EL (Ex RB BOk Bn TK)
def un22 {α : Type} (u : U) (k : U → U → U → U → M α) : M α := match u with
  | .tup [.tup [a, b], .tup [c, d]] => k a b c d
  | _ => .fail
def un21 {α : Type} (u : U) (k : U → U → U → M α) : M α := match u with
  | .tup [.tup [a, b], c] => k a b c
  | _ => .fail
section
variable {F : Fr} {δ : Dl} {i j l m : Nat} {vs : List Nat}
end
end UX

set_option Elab.async false
set_option linter.all false
set_option maxRecDepth 100000
set_option maxHeartbeats 4000000
set_option autoImplicit false
namespace UX
open PySem PySem.Spec
def Wp {α : Type} (w : M α) (st : Sto) (Q : α → Sto → Prop) : Prop := ∃ a st', w st = some (.ok a, st') ∧ Q a st'
section
variable {α β S S' L : Type} {w : M α} {st : Sto} {Q Q' : α → Sto → Prop}
theorem Wp.mono (h : Wp w st Q) (k : ∀ a s, Q a s → Q' a s) : Wp w st Q' := by
  obtain ⟨a, s, e, q⟩ := h
  exact ⟨a, s, e, k a s q⟩
theorem Wp.ret {a : α} (h : Q a st) : Wp (.ret a) st Q := ⟨a, st, rfl, h⟩
theorem Wp.bind {f : β → M α} {v : M β} (h : Wp v st fun a s => Wp (f a) s Q) : Wp (.bind v f) st Q := by
  obtain ⟨a, s, e, b, s', e', q⟩ := h
  exact ⟨b, s', by rw [M.bind_of e]; exact e', q⟩
theorem Wp.o {x : Option α} {a : α} (e : x = some a) (h : Q a st) : Wp (.o x) st Q := by subst e; exact Wp.ret h
theorem Wp.eq {a : α} {s : Sto} (e : w st = some (.ok a, s)) (h : Q a s) : Wp w st Q := ⟨a, s, e, h⟩
end
section
variable {S S' L : Type} {st : Sto} {Q : U → Sto → Prop} {QT : Bool → Sto → Prop} {QA : List U → Sto → Prop}
theorem Wp.op1 {f : U → Option U} {wa : M U} (h : Wp wa st fun a s => ∃ c, f a = some c ∧ Q c s) : Wp (op1 f wa) st Q := .bind (h.mono fun _ _ ⟨_, e, q⟩ => .o e q)
theorem Wp.op2 {f : U → U → Option U} {wa wb : M U} (h : Wp wa st fun a s => Wp wb s fun b s => ∃ c, f a b = some c ∧ Q c s) : Wp (op2 f wa wb) st Q := .bind (h.mono fun _ _ h => .bind (h.mono fun _ _ ⟨_, e, q⟩ => .o e q))
theorem Wp.test {wa : M U} (h : Wp wa st fun a s => ∃ b, a = .bl b ∧ QT b s) : Wp (testW wa) st QT := .bind (h.mono fun _ _ ⟨_, e, q⟩ => .o (by rw [e]; rfl) q)
theorem Wp.not {w : M Bool} (h : Wp w st fun b s => QT (!b) s) : Wp (notT w) st QT := .bind (h.mono fun _ _ q => .ret q)
theorem Wp.and {w w' : M Bool} (h : Wp w st fun b s => if b = true then Wp w' s QT else QT false s) : Wp (andT w w') st QT := .bind (h.mono fun b _ q => by
  cases b
  · exact .ret q
  · exact q)
theorem Wp.or {w w' : M Bool} (h : Wp w st fun b s => if b = true then QT true s else Wp w' s QT) : Wp (orT w w') st QT := .bind (h.mono fun b _ q => by
  cases b
  · exact q
  · exact .ret q)
theorem Wp.andW {w w' : M U} (h : Wp (testW w) st fun b s => if b = true then Wp w' s Q else Q (.bl false) s) : Wp (andW w w') st Q := .bind (h.mono fun b _ q => by
  cases b
  · exact .ret q
  · exact q)
theorem Wp.orW {w w' : M U} (h : Wp (testW w) st fun b s => if b = true then Q (.bl true) s else Wp w' s Q) : Wp (orW w w') st Q := .bind (h.mono fun b _ q => by
  cases b
  · exact q
  · exact .ret q)
theorem Wp.ite {α : Type} {Q : α → Sto → Prop} {c : M Bool} {w w' : M α} (h : Wp c st fun b s => if b = true then Wp w s Q else Wp w' s Q) : Wp (iteW c w w') st Q := .bind (h.mono fun b _ q => by
  cases b
  · exact q
  · exact q)
theorem Wp.consA {wa : M U} {wr : M (List U)} (h : Wp wa st fun a s => Wp wr s fun r s => QA (a :: r) s) : Wp (consA wa wr) st QA := .bind (h.mono fun _ _ h => .bind (h.mono fun _ _ q => .ret q))
theorem Wp.nilA (h : QA [] st) : Wp nilA st QA := .ret h
theorem Wp.tup {wa : M (List U)} (h : Wp wa st fun us s => us.length ≤ sizeLine ∧ Q (.tup us) s) : Wp (tupW wa) st Q := .bind (h.mono fun _ _ ⟨l, q⟩ => .o (if_pos l) q)
theorem Wp.lst {wa : M (List U)} (h : Wp wa st fun us s => us.length ≤ sizeLine ∧ Q (.lst us) s) : Wp (lstW wa) st Q := .bind (h.mono fun _ _ ⟨l, q⟩ => .o (if_pos l) q)
theorem Wp.call {f : List U → M U} {wa : M (List U)} (h : Wp wa st fun us s => Wp (f us) s Q) : Wp (callM f wa) st Q := .bind h
theorem Wp.seq {Q : Out S' L → Sto → Prop} {w : M (Out S L)} {k : S → M (Out S' L)} (h : Wp w st fun o s => match o with
    | .nx a => Wp (k a) s Q
    | .rt u => Q (.rt u) s
    | .bk l => Q (.bk l) s
    | .ct l => Q (.ct l) s) : Wp (seqO w k) st Q := .bind (h.mono fun o _ q => by
  cases o with
  | nx a => exact q
  | _ => exact .ret q)
theorem Wp.rt {Q : Out S L → Sto → Prop} {w : M U} (h : Wp w st fun u s => Q (.rt u) s) : Wp (rtO w) st Q := .bind (h.mono fun _ _ q => .ret q)
theorem Wp.nx {Q : Out S L → Sto → Prop} {s : S} (h : Q (.nx s) st) : Wp (nxO s) st Q := .ret h
theorem Wp.fn {w : M (Out Unit Unit)} (h : Wp w st fun o s => match o with
    | .rt u => Q u s
    | .nx _ => Q .non s
    | _ => False) : Wp (fnM w) st Q := .bind (h.mono fun o _ q => by
  cases o with
  | rt u => exact .ret q
  | nx _ => exact .ret q
  | bk _ => exact q.elim
  | ct _ => exact q.elim)
theorem Wp.for {f : U → S → M (Out S S)} {Q : Out S L → Sto → Prop} {us : List U} (I : Nat → S → Sto → Prop) {s0 : S} (h0 : I 0 s0 st)
    (hs : ∀ (i : Nat) (u : U) (s : S) (st : Sto), us[i]? = some u → I i s st → Wp (f u s) st fun o st' => match o with
      | .nx s' => I (i + 1) s' st'
      | .ct s' => I (i + 1) s' st'
      | .bk s' => Q (.nx s') st'
      | .rt u => Q (.rt u) st')
    (hd : ∀ s st, I us.length s st → Q (.nx s) st) : Wp (forO f us s0) st Q := by
  have key : ∀ (vs : List U) (k : Nat) (s : S) (st : Sto), us.drop k = vs → k ≤ us.length → I k s st → Wp (forO (L := L) f vs s) st Q := by
    intro vs
    induction vs with
    | nil =>
      intro k s st e hk hi
      have : k = us.length := by
        have := congrArg List.length e
        rw [List.length_drop] at this
        simp at this
        omega
      subst this
      exact .ret (hd s st hi)
    | cons v vs ih =>
      intro k s st e hk hi
      have hlt : k < us.length := by
        have := congrArg List.length e
        rw [List.length_drop, List.length_cons] at this
        omega
      have ev : us[k]? = some v := by rw [← List.head?_drop, e]; rfl
      have ed : us.drop (k + 1) = vs := by rw [← List.tail_drop, e]; rfl
      refine .bind ((hs k v s st ev hi).mono fun o st' q => ?_)
      cases o with
      | nx s' => exact ih (k + 1) s' st' ed hlt q
      | ct s' => exact ih (k + 1) s' st' ed hlt q
      | bk s' => exact .ret q
      | rt u => exact .ret q
  exact key us 0 s0 st rfl (Nat.zero_le _) h0
theorem Wp.lc {wl : M (List U)} {wt : U → M Bool} {we : U → M U} (h : Wp wl st fun us s => Wp (compM wt we us) s fun r s => r.length ≤ sizeLine ∧ Q (.lst r) s) : Wp (lcW wl wt we) st Q := .bind (h.mono fun _ _ h => .bind (h.mono fun _ _ ⟨l, q⟩ => .o (if_pos l) q))
theorem Wp.while {c : S → M Bool} {b : S → M (Out S S)} {Q : Out S L → Sto → Prop} (I : Nat → S → Sto → Prop)
    (hs : ∀ n s st, I n s st → Wp (c s) st fun t st => if t = true then Wp (b s) st fun o st => match o with
      | .nx s' => ∃ m < n, I m s' st
      | .ct s' => ∃ m < n, I m s' st
      | .bk s' => Q (.nx s') st
      | .rt u => Q (.rt u) st else Q (.nx s) st) : ∀ {n : Nat} {s : S} {st : Sto}, I n s st → Wp (whileO c b s) st Q := by
  have key : ∀ (n : Nat) (s : S) (st : Sto), I n s st → Wp (whileN (L := L) c b (n + 1) s) st Q := by
    intro n
    induction n using Nat.strongRecOn with
    | _ n ih =>
      intro s st hi
      have up : ∀ {m k : Nat} {s : S} {st : Sto}, m ≤ k → Wp (whileN (L := L) c b m s) st Q → Wp (whileN (L := L) c b k s) st Q := by
        intro m k s st h w
        obtain ⟨a, s', e, q⟩ := w
        refine ⟨a, s', ?_, q⟩
        induction h with
        | refl => exact e
        | step _ ih => exact whileN_succ ih
      refine .bind ((hs n s st hi).mono fun t st q => ?_)
      cases t with
      | false => exact .ret q
      | true =>
        refine .bind (Wp.mono (show Wp (b s) st _ from q) fun o st q => ?_)
        cases o with
        | nx s' => obtain ⟨m, hm, q⟩ := q; exact up (by omega) (ih m hm s' st q)
        | ct s' => obtain ⟨m, hm, q⟩ := q; exact up (by omega) (ih m hm s' st q)
        | bk s' => exact .ret q
        | rt u => exact .ret q
  intro n s st hi
  obtain ⟨a, s', e, q⟩ := key n s st hi
  exact ⟨a, s', whileO_of e, q⟩
end
end UX

set_option Elab.async false
set_option linter.all false
set_option maxRecDepth 100000
set_option maxHeartbeats 4000000
set_option autoImplicit false
namespace UX
open PySem PySem.Spec
theorem pdAll_ints : ∀ cs : List Int, pdAll (cs.map U.int) = some (cs.map PyData.int)
  | [] => rfl
  | c :: cs => by simp [pdAll, pd, pdAll_ints cs]
theorem eqU_int (i j : Int) : eqU (.int i) (.int j) = some (.bl (decide (i = j))) := by
  show eqD (.int i) (.int j) = _
  unfold eqD
  rw [show pd (.int i) = some (.int i) from rfl, show pd (.int j) = some (.int j) from rfl]
  have h : ∀ i : Int, SeqAt.shaped (.int i) = true := fun i => by simp [SeqAt.shaped, PyData.canLay0, PyData.depth]
  simp only [h, and_self, if_true]
  simp only [PyData.eqv]
  rfl
theorem fdiv_at {i j : Int} (h : j ≠ 0) (h2 : j.natAbs < 1073741824) : fdivU (.int i) (.int j) = some (.int (i.fdiv j)) := if_pos ⟨h, h2⟩
theorem mod_at {i j : Int} (h : j ≠ 0) : modU (.int i) (.int j) = some (.int (i.fmod j)) := if_pos h
theorem mul_at {i j : Int} (h : L2.CMul i j) : mulU (.int i) (.int j) = some (.int (i * j)) := if_pos h
theorem pow_at {i j : Int} (h : L2.CPow i j) : powU (.int i) (.int j) = some (.int (i ^ j.toNat)) := if_pos h
theorem eqU_str {x y : Str} {b : Bool} (hb : decide (x = y) = b) : eqU (.str x) (.str y) = some (.bl b) := by rw [← hb]; rfl
theorem neU_str {x y : Str} {b : Bool} (hb : (!decide (x = y)) = b) : neU (.str x) (.str y) = some (.bl b) := by rw [← hb]; rfl
theorem leaf_ints (cs : List Int) : (cs.map U.int).all leafU = true := by
  rw [List.all_map, List.all_eq_true]; intro c _; rfl
end UX

set_option Elab.async false
set_option linter.all false
set_option maxRecDepth 100000
set_option maxHeartbeats 4000000
set_option autoImplicit false
namespace UX
open PySem PySem.Spec
def WpO {α : Type} (x : Option α) (P : α → Prop) : Prop := ∃ c, x = some c ∧ P c
def SeqK {S S' L : Type} (k : S → M (Out S' L)) (Q : Out S' L → Sto → Prop) : Out S L → Sto → Prop
  | .nx a, s => Wp (k a) s Q
  | .rt u, s => Q (.rt u) s
  | .bk l, s => Q (.bk l) s
  | .ct l, s => Q (.ct l) s
def FnK (Q : U → Sto → Prop) : Out Unit Unit → Sto → Prop
  | .rt u, s => Q u s
  | .nx _, s => Q .non s
  | _, _ => False
def ForK {S L : Type} (J : S → Sto → Prop) (Q : Out S L → Sto → Prop) : Out S S → Sto → Prop
  | .nx s, st => J s st
  | .ct s, st => J s st
  | .bk s, st => Q (.nx s) st
  | .rt u, st => Q (.rt u) st
def IfP (b : Bool) (A B : Prop) : Prop := if b = true then A else B
section
variable {α β S S' L : Type} {st : Sto} {Q : U → Sto → Prop} {QT : Bool → Sto → Prop} {QA : List U → Sto → Prop} {A B : Prop} {b : Bool}
theorem if_t (h : A) : IfP true A B := h
theorem if_f (h : B) : IfP false A B := h
theorem if_yes (e : b = true) (h : A) : IfP b A B := by subst e; exact h
theorem if_no (e : b = false) (h : B) : IfP b A B := by subst e; exact h
theorem if_dec {p : Prop} [Decidable p] (h1 : p → A) (h2 : ¬ p → B) : IfP (decide p) A B := by
  by_cases h : p
  · rw [decide_eq_true h]; exact h1 h
  · rw [decide_eq_false h]; exact h2 h
theorem if_ndec {p : Prop} [Decidable p] (h1 : ¬ p → A) (h2 : p → B) : IfP (!decide p) A B := by
  by_cases h : p
  · rw [decide_eq_true h]; exact h2 h
  · rw [decide_eq_false h]; exact h1 h
theorem if_p {p : Prop} [Decidable p] (h : p) (q : A) : IfP (decide p) A B := if_yes (decide_eq_true h) q
theorem if_n {p : Prop} [Decidable p] (h : ¬ p) (q : B) : IfP (decide p) A B := if_no (decide_eq_false h) q
theorem if_any (h1 : b = true → A) (h2 : b = false → B) : IfP b A B := by
  cases b
  · exact h2 rfl
  · exact h1 rfl
theorem wo_some {x : α} {P : α → Prop} (h : P x) : WpO (some x) P := ⟨x, rfl, h⟩
theorem wo_eq {x : Option α} {a : α} {P : α → Prop} (e : x = some a) (h : P a) : WpO x P := ⟨a, e, h⟩
theorem vs_ret {Q : α → Sto → Prop} {a : α} (h : Q a st) : Wp (.ret a) st Q := .ret h
theorem vs_eq {w : M α} {Q : α → Sto → Prop} {a : α} (e : w = .ret a) (h : Q a st) : Wp w st Q := e ▸ .ret h
theorem vs_o {x : Option α} {Q : α → Sto → Prop} (h : WpO x fun a => Q a st) : Wp (.o x) st Q := by obtain ⟨c, e, q⟩ := h; exact .o e q
theorem vs_op1 {f : U → Option U} {wa : M U} (h : Wp wa st fun a s => WpO (f a) fun c => Q c s) : Wp (op1 f wa) st Q := .op1 h
theorem vs_op2 {f : U → U → Option U} {wa wb : M U} (h : Wp wa st fun a s => Wp wb s fun b s => WpO (f a b) fun c => Q c s) : Wp (op2 f wa wb) st Q := .op2 h
theorem vs_test {wa : M U} (h : Wp wa st fun a s => WpO (boolU a) fun b => QT b s) : Wp (testW wa) st QT := .bind (h.mono fun _ _ q => vs_o q)
theorem vs_not {w : M Bool} (h : Wp w st fun b s => QT (!b) s) : Wp (notT w) st QT := .not h
theorem vs_and {w w' : M Bool} (h : Wp w st fun b s => IfP b (Wp w' s QT) (QT false s)) : Wp (andT w w') st QT := .and h
theorem vs_or {w w' : M Bool} (h : Wp w st fun b s => IfP b (QT true s) (Wp w' s QT)) : Wp (orT w w') st QT := .or h
theorem vs_andW {w w' : M U} (h : Wp (testW w) st fun b s => IfP b (Wp w' s Q) (Q (.bl false) s)) : Wp (andW w w') st Q := .andW h
theorem vs_orW {w w' : M U} (h : Wp (testW w) st fun b s => IfP b (Q (.bl true) s) (Wp w' s Q)) : Wp (orW w w') st Q := .orW h
theorem vs_ite {Q : α → Sto → Prop} {c : M Bool} {w w' : M α} (h : Wp c st fun b s => IfP b (Wp w s Q) (Wp w' s Q)) : Wp (iteW c w w') st Q := .ite h
theorem vs_chain {f g : U → U → Option U} {wa wb wc : M U} (h : Wp wa st fun a s => Wp wb s fun b s => WpO (f a b) fun t => WpO (boolU t) fun k => IfP k (Wp wc s fun c s => WpO (g b c) fun r => Q r s) (Q (.bl false) s)) : Wp (chainW f g wa wb wc) st Q :=
  .bind (h.mono fun a _ h => .bind (h.mono fun b s h => .bind (vs_test (vs_o (by
    obtain ⟨t, e, k, e', q⟩ := h
    refine ⟨t, e, k, e', ?_⟩
    cases k with
    | false => exact .ret q
    | true => exact .bind (Wp.mono (show Wp wc s _ from q) fun c s q => vs_o q))))))
theorem vs_consA {wa : M U} {wr : M (List U)} (h : Wp wa st fun a s => Wp wr s fun r s => QA (a :: r) s) : Wp (consA wa wr) st QA := .consA h
theorem vs_nilA (h : QA [] st) : Wp nilA st QA := .ret h
theorem vs_tup {wa : M (List U)} (h : Wp wa st fun us s => us.length ≤ sizeLine ∧ Q (.tup us) s) : Wp (tupW wa) st Q := .tup h
theorem vs_lst {wa : M (List U)} (h : Wp wa st fun us s => us.length ≤ sizeLine ∧ Q (.lst us) s) : Wp (lstW wa) st Q := .lst h
theorem vs_call {f : List U → M U} {wa : M (List U)} (h : Wp wa st fun us s => Wp (f us) s Q) : Wp (callM f wa) st Q := .call h
theorem vs_meth {c m : Str} {f : List U → M U} {wo : M U} {wa : M (List U)} (h : Wp wo st fun o s => WpO (isObj c m o) fun _ => Wp wa s fun us s => Wp (f (o :: us)) s Q) : Wp (methM c m f wo wa) st Q :=
  .bind (h.mono fun o s h => .bind (vs_o (by obtain ⟨x, e, q⟩ := h; exact ⟨x, e, .bind q⟩)))
theorem vs_L0 {f : M U} (h : Wp f st Q) : Wp (L0 f []) st Q := h
theorem vs_L1 {f : U → M U} {a : U} (h : Wp (f a) st Q) : Wp (L1 f [a]) st Q := h
theorem vs_L2 {f : U → U → M U} {a b : U} (h : Wp (f a b) st Q) : Wp (L2' f [a, b]) st Q := h
theorem vs_L3 {f : U → U → U → M U} {a b c : U} (h : Wp (f a b c) st Q) : Wp (L3 f [a, b, c]) st Q := h
theorem vs_L4 {f : U → U → U → U → M U} {a b c d : U} (h : Wp (f a b c d) st Q) : Wp (L4 f [a, b, c, d]) st Q := h
theorem vs_L5 {f : U → U → U → U → U → M U} {a b c d e : U} (h : Wp (f a b c d e) st Q) : Wp (L5 f [a, b, c, d, e]) st Q := h
theorem vs_L6 {f : U → U → U → U → U → U → M U} {a b c d e g : U} (h : Wp (f a b c d e g) st Q) : Wp (L6 f [a, b, c, d, e, g]) st Q := h
theorem vs_seq {Q : Out S' L → Sto → Prop} {w : M (Out S L)} {k : S → M (Out S' L)} (h : Wp w st (SeqK k Q)) : Wp (seqO w k) st Q := .seq (h.mono fun o s q => by cases o <;> exact q)
theorem sk_nx {k : S → M (Out S' L)} {Q : Out S' L → Sto → Prop} {a : S} (h : Wp (k a) st Q) : SeqK (L := L) k Q (.nx a) st := h
theorem sk_rt {k : S → M (Out S' L)} {Q : Out S' L → Sto → Prop} {u : U} (h : Q (.rt u) st) : SeqK (L := L) k Q (.rt u) st := h
theorem sk_bk {k : S → M (Out S' L)} {Q : Out S' L → Sto → Prop} {u : L} (h : Q (.bk u) st) : SeqK (L := L) k Q (.bk u) st := h
theorem sk_ct {k : S → M (Out S' L)} {Q : Out S' L → Sto → Prop} {u : L} (h : Q (.ct u) st) : SeqK (L := L) k Q (.ct u) st := h
theorem fk_rt {u : U} (h : Q u st) : FnK Q (.rt u) st := h
theorem fk_nx {u : Unit} (h : Q .non st) : FnK Q (.nx u) st := h
theorem ok_nx {J : S → Sto → Prop} {Q : Out S L → Sto → Prop} {s : S} (h : J s st) : ForK J Q (.nx s) st := h
theorem ok_ct {J : S → Sto → Prop} {Q : Out S L → Sto → Prop} {s : S} (h : J s st) : ForK J Q (.ct s) st := h
theorem ok_bk {J : S → Sto → Prop} {Q : Out S L → Sto → Prop} {s : S} (h : Q (.nx s) st) : ForK J Q (.bk s) st := h
theorem ok_rt {J : S → Sto → Prop} {Q : Out S L → Sto → Prop} {u : U} (h : Q (.rt u) st) : ForK J Q (.rt u) st := h
theorem vs_rt {Q : Out S L → Sto → Prop} {w : M U} (h : Wp w st fun u s => Q (.rt u) s) : Wp (rtO w) st Q := .rt h
theorem vs_nx {Q : Out S L → Sto → Prop} {s : S} (h : Q (.nx s) st) : Wp (nxO s) st Q := .ret h
theorem vs_fn {w : M (Out Unit Unit)} (h : Wp w st (FnK Q)) : Wp (fnM w) st Q := .fn (h.mono fun o s q => by cases o <;> exact q)
theorem vs_noP {Q : Option Int → Sto → Prop} (h : Q none st) : Wp noP st Q := .ret h
theorem vs_someP {Q : Option Int → Sto → Prop} {w : M U} (h : Wp w st fun u s => WpO (intU u) fun i => Q (some i) s) : Wp (someP w) st Q := .bind (h.mono fun u s q => vs_o (by obtain ⟨i, e, q⟩ := q; exact ⟨some i, by rw [e]; rfl, q⟩))
theorem vs_sl {wa : M U} {wl wh : M (Option Int)} (h : Wp wa st fun a s => Wp wl s fun l s => Wp wh s fun h s => WpO (slU a l h) fun c => Q c s) : Wp (slW wa wl wh) st Q := .bind (h.mono fun _ _ h => .bind (h.mono fun _ _ h => .bind (h.mono fun _ _ h => vs_o h)))
theorem vs_it {w : M U} (h : Wp w st fun u s => WpO (itU u) fun r => QA r s) : Wp (itW w) st QA := .bind (h.mono fun _ _ h => vs_o h)
theorem vs_rng1 {w : M U} (h : Wp w st fun u s => WpO (rng1U u) fun r => QA r s) : Wp (rng1W w) st QA := .bind (h.mono fun _ _ h => vs_o h)
theorem vs_rng2 {w w' : M U} (h : Wp w st fun u s => Wp w' s fun u' s => WpO (rng2U u u') fun r => QA r s) : Wp (rng2W w w') st QA := .bind (h.mono fun _ _ h => .bind (h.mono fun _ _ h => vs_o h))
theorem vs_zip {w w' : M U} (h : Wp w st fun u s => Wp w' s fun u' s => WpO (zipU u u') fun r => QA r s) : Wp (zipW w w') st QA := .bind (h.mono fun _ _ h => .bind (h.mono fun _ _ h => vs_o h))
theorem vs_un2 {Q : α → Sto → Prop} {a b : U} {k : U → U → M α} (h : Wp (k a b) st Q) : Wp (un2 (.tup [a, b]) k) st Q := h
theorem vs_un3 {Q : α → Sto → Prop} {a b c : U} {k : U → U → U → M α} (h : Wp (k a b c) st Q) : Wp (un3 (.tup [a, b, c]) k) st Q := h
theorem vs_un4 {Q : α → Sto → Prop} {a b c d : U} {k : U → U → U → U → M α} (h : Wp (k a b c d) st Q) : Wp (un4 (.tup [a, b, c, d]) k) st Q := h
theorem vs_un5 {Q : α → Sto → Prop} {a b c d e : U} {k : U → U → U → U → U → M α} (h : Wp (k a b c d e) st Q) : Wp (un5 (.tup [a, b, c, d, e]) k) st Q := h
theorem vs_un6 {Q : α → Sto → Prop} {a b c d e f : U} {k : U → U → U → U → U → U → M α} (h : Wp (k a b c d e f) st Q) : Wp (un6 (.tup [a, b, c, d, e, f]) k) st Q := h
theorem vs_lc {wl : M (List U)} {wt : U → M Bool} {we : U → M U} (h : Wp wl st fun us s => Wp (compM wt we us) s fun r s => r.length ≤ sizeLine ∧ Q (.lst r) s) : Wp (lcW wl wt we) st Q := .lc h
theorem vs_lc2 {wl : M (List U)} {wt : U → M Bool} {w1 : U → M (List U)} {wt1 : U → U → M Bool} {we : U → U → M U} (h : Wp wl st fun us s => Wp (comp2M wt w1 wt1 we us) s fun r s => r.length ≤ sizeLine ∧ Q (.lst r) s) : Wp (lc2W wl wt w1 wt1 we) st Q := .bind (h.mono fun _ _ h => .bind (h.mono fun _ _ ⟨l, q⟩ => .o (if_pos l) q))
theorem vs_for {τ σ : Type} {c : τ → U} {e : σ → S} {f : U → S → M (Out S S)} {Q : Out S L → Sto → Prop} {xs : List τ} (I : List τ → σ → Sto → Prop) {s0 : S} {t0 : σ} (he : s0 = e t0) (h0 : I [] t0 st)
    (hs : ∀ (pre : List τ) (x : τ) (post : List τ) (s : σ) (st : Sto), xs = pre ++ x :: post → I pre s st → Wp (f (c x) (e s)) st (ForK (fun s' st' => ∃ t, s' = e t ∧ I (pre ++ [x]) t st') Q))
    (hd : ∀ s st, I xs s st → Q (.nx (e s)) st) : Wp (forO f (xs.map c) s0) st Q := by
  subst he
  have key : ∀ (post pre : List τ) (s : σ) (st : Sto), xs = pre ++ post → I pre s st → Wp (forO (L := L) f (post.map c) (e s)) st Q := by
    intro post
    induction post with
    | nil => intro pre s st ex hi; rw [List.append_nil] at ex; subst ex; exact .ret (hd s st hi)
    | cons x post ih =>
      intro pre s st ex hi
      refine .bind ((hs pre x post s st ex hi).mono fun o st' q => ?_)
      cases o with
      | nx s' => obtain ⟨t, rfl, q⟩ := q; exact ih (pre ++ [x]) t st' (by rw [ex]; simp) q
      | ct s' => obtain ⟨t, rfl, q⟩ := q; exact ih (pre ++ [x]) t st' (by rw [ex]; simp) q
      | bk s' => exact .ret q
      | rt u => exact .ret q
  exact key xs [] t0 st rfl h0
theorem vs_forN {σ : Type} {e : σ → S} {f : U → S → M (Out S S)} {Q : Out S L → Sto → Prop} {n : Nat} (I : Nat → σ → Sto → Prop) {s0 : S} {t0 : σ} (he : s0 = e t0) (h0 : I 0 t0 st)
    (hs : ∀ (i : Nat) (s : σ) (st : Sto), i < n → I i s st → Wp (f (.int (i : Nat)) (e s)) st (ForK (fun s' st' => ∃ t, s' = e t ∧ I (i + 1) t st') Q))
    (hd : ∀ s st, I n s st → Q (.nx (e s)) st) : Wp (forO f ((List.range n).map fun i => .int (i : Nat)) s0) st Q := by
  subst he
  refine vs_for (c := fun i : Nat => U.int (i : Nat)) (e := e) (xs := List.range n) (fun pre s st => pre = List.range pre.length ∧ I pre.length s st) (t0 := t0) rfl ⟨rfl, h0⟩ ?_ ?_
  · rintro pre x post s st ex ⟨hp, hi⟩
    have hl : pre.length < n := by have := congrArg List.length ex; simp at this; omega
    have hx : x = pre.length := by
      have h1 : (List.range n)[pre.length]? = some x := by rw [ex]; simp
      rw [List.getElem?_range hl] at h1
      exact (Option.some.inj h1).symm
    subst hx
    refine (hs pre.length s st hl hi).mono fun o st' q => ?_
    have hp' : pre ++ [pre.length] = List.range (pre ++ [pre.length]).length := by
      rw [List.length_append, List.length_singleton, List.range_succ, ← hp]
    cases o with
    | nx s' => obtain ⟨t, rfl, q⟩ := q; exact ⟨t, rfl, hp', by simpa using q⟩
    | ct s' => obtain ⟨t, rfl, q⟩ := q; exact ⟨t, rfl, hp', by simpa using q⟩
    | bk s' => exact q
    | rt u => exact q
  · rintro s st ⟨_, hi⟩
    exact hd s st (by simpa using hi)
theorem vs_comp {τ κ : Type} {c : τ → U} {d : κ → U} {wt : U → M Bool} {we : U → M U} {xs : List τ} (I : List τ → List κ → Sto → Prop) (h0 : I [] [] st)
    (hs : ∀ (pre : List τ) (x : τ) (post : List τ) (r : List κ) (st : Sto), xs = pre ++ x :: post → I pre r st → Wp (wt (c x)) st fun b s => IfP b (Wp (we (c x)) s fun y s => ∃ z, y = d z ∧ I (pre ++ [x]) (r ++ [z]) s) (I (pre ++ [x]) r s))
    (hd : ∀ r st, I xs r st → QA (r.map d) st) : Wp (compM wt we (xs.map c)) st QA := by
  have key : ∀ (post pre : List τ) (r : List κ) (st : Sto), xs = pre ++ post → I pre r st → Wp (compM wt we (post.map c)) st fun x s => QA (r.map d ++ x) s := by
    intro post
    induction post with
    | nil => intro pre r st ex hi; rw [List.append_nil] at ex; subst ex; exact .ret (by rw [List.append_nil]; exact hd r st hi)
    | cons x post ih =>
      intro pre r st ex hi
      refine .bind ((hs pre x post r st ex hi).mono fun b s q => ?_)
      cases b with
      | false => exact ih (pre ++ [x]) r s (by rw [ex]; simp) q
      | true => exact .bind (Wp.mono (show Wp (we (c x)) s _ from q) fun y s ⟨z, ey, q⟩ => .bind ((ih (pre ++ [x]) (r ++ [z]) s (by rw [ex]; simp) q).mono fun y' s q => .ret (by subst ey; simpa using q)))
  exact (key xs [] [] st rfl h0).mono fun x s q => q
theorem vs_compN {κ : Type} {d : κ → U} {wt : U → M Bool} {we : U → M U} {n : Nat} (I : Nat → List κ → Sto → Prop) (h0 : I 0 [] st)
    (hs : ∀ (i : Nat) (r : List κ) (st : Sto), i < n → I i r st → Wp (wt (.int (i : Nat))) st fun b s => IfP b (Wp (we (.int (i : Nat))) s fun y s => ∃ z, y = d z ∧ I (i + 1) (r ++ [z]) s) (I (i + 1) r s))
    (hd : ∀ r st, I n r st → QA (r.map d) st) : Wp (compM wt we ((List.range n).map fun i => .int (i : Nat))) st QA := by
  refine vs_comp (c := fun i : Nat => U.int (i : Nat)) (d := d) (xs := List.range n) (fun pre r st => pre = List.range pre.length ∧ I pre.length r st) ⟨rfl, h0⟩ ?_ ?_
  · rintro pre x post r st ex ⟨hp, hi⟩
    have hl : pre.length < n := by have := congrArg List.length ex; simp at this; omega
    have hx : x = pre.length := by
      have h1 : (List.range n)[pre.length]? = some x := by rw [ex]; simp
      rw [List.getElem?_range hl] at h1
      exact (Option.some.inj h1).symm
    subst hx
    have hp' : pre ++ [pre.length] = List.range (pre ++ [pre.length]).length := by
      rw [List.length_append, List.length_singleton, List.range_succ, ← hp]
    refine (hs pre.length r st hl hi).mono fun b st' q => ?_
    cases b with
    | false => exact ⟨hp', by simpa using (show I (pre.length + 1) r st' from q)⟩
    | true => exact Wp.mono (show Wp (we _) st' _ from q) fun y s ⟨z, e, q⟩ => ⟨z, e, hp', by simpa using q⟩
  · rintro r st ⟨_, hi⟩
    exact hd r st (by simpa using hi)
end
section
variable {α β : Type}
theorem eq_of_wp {w : M α} {a : α} (h : ∀ st, Wp w st fun x s => x = a ∧ s = st) : w = .ret a := by
  funext st
  obtain ⟨x, s, e, rfl, rfl⟩ := h st
  exact e
theorem comp_eq {τ κ : Type} {c : τ → U} {d : κ → U} {wt : U → M Bool} {we : U → M U} {p : τ → Bool} {g : τ → κ} : ∀ {xs : List τ}, (∀ x ∈ xs, wt (c x) = .ret (p x) ∧ (p x = true → we (c x) = .ret (d (g x)))) → compM wt we (xs.map c) = .ret (((xs.filter p).map g).map d)
  | [], _ => rfl
  | x :: xs, h => by
    have ih := comp_eq (xs := xs) fun y m => h y (List.mem_cons_of_mem _ m)
    obtain ⟨h1, h2⟩ := h x List.mem_cons_self
    rw [List.map_cons, compM, h1, M.bind_ret, List.filter_cons]
    cases e : p x with
    | false => exact ih
    | true => rw [if_pos rfl, h2 e, M.bind_ret, ih]; rfl
end
end UX

set_option Elab.async false
set_option linter.all false
set_option maxRecDepth 100000
set_option maxHeartbeats 4000000
set_option autoImplicit false
namespace UX
open PySem PySem.Spec
mutual
def smU : U → Bool
  | .non => true
  | .bl _ => true
  | .int i => decide (i.natAbs < 1000000000000)
  | .str x => PyData.strOk x && decide (x.cps.size ≤ 100)
  | .tup us => smA us
  | .lst us => smA us
  | _ => false
def smA : List U → Bool
  | [] => true
  | u :: us => smU u && smA us
end
mutual
def wtU : U → Nat
  | .tup us => wtA us
  | .lst us => wtA us
  | _ => 100
def wtA : List U → Nat
  | [] => 0
  | u :: us => wtU u + 1 + wtA us
end
mutual
def dpU : U → Nat
  | .tup us => dpA us + 1
  | .lst us => dpA us + 1
  | _ => 0
def dpA : List U → Nat
  | [] => 0
  | u :: us => max (dpU u) (dpA us)
end
structure SmD (u : U) (d : PyData) : Prop where
  pd : pd u = some d
  sh : d.showable = true
  nd : d.hasDict = false
  dp : d.depth = dpU u
  ls : d.leavesShort 13 = true
  wt : d.weight ≤ wtU u
  cl : d.canLay0 = true
structure SmDA (us : List U) (ds : List PyData) : Prop where
  pd : pdAll us = some ds
  sh : PyData.showableAll ds = true
  nd : PyData.hasDictAll ds = false
  dp : PyData.depthAll ds = dpA us
  ls : PyData.leavesShortAll 13 ds = true
  wt : PyData.weightAll ds ≤ wtA us
  cl : PyData.canLayAll0 ds = true
theorem log_small {i : Int} (h : i.natAbs < 1000000000000) : i.natAbs.log2 < 41 := by
  by_cases z : i.natAbs = 0
  · rw [z]; decide
  · exact (Nat.log2_lt z).mpr (Nat.lt_of_lt_of_le h (by decide))
mutual
theorem sm_pd : ∀ u : U, smU u = true → ∃ d, SmD u d
  | .non, _ => ⟨.none, rfl, rfl, rfl, rfl, rfl, by decide, rfl⟩
  | .bl b, _ => ⟨.bool b, rfl, rfl, rfl, rfl, rfl, by show 0 ≤ 100; decide, rfl⟩
  | .int i, h => by
    have h : i.natAbs < 1000000000000 := by simpa [smU] using h
    have hl := log_small h
    refine ⟨.int i, rfl, ?_, rfl, rfl, ?_, ?_, rfl⟩
    · simp only [PyData.showable]; exact decide_eq_true (by omega)
    · have h1 : PyData.leavesShortAll 13 ([i].map .int) = true := PyData.leavesShortAll_of_canLay0 13 _ (EL.canLayAll_ints [i]) (PyData.intsShortAll_ints [i] fun n hn => by rw [List.mem_singleton.mp hn]; omega)
      simpa [PyData.leavesShortAll] using h1
    · simp only [PyData.weight, wtU]
      split <;> omega
  | .str x, h => by
    have h : PyData.strOk x = true ∧ x.cps.size ≤ 100 := by simpa [smU] using h
    refine ⟨.str x, rfl, rfl, rfl, rfl, ?_, h.2, h.1⟩
    exact PyData.leavesShort_of_canLay0 13 (.str x) h.1 rfl
  | .tup us, h => by
    obtain ⟨ds, e⟩ := smA_pd us h
    exact ⟨.tuple ds, by simp [pd, e.pd], by simpa [PyData.showable] using e.sh, by simpa [PyData.hasDict] using e.nd, by simp [PyData.depth, dpU, e.dp], by simpa [PyData.leavesShort] using e.ls, by simpa [PyData.weight, wtU] using e.wt, by simpa [PyData.canLay0] using e.cl⟩
  | .lst us, h => by
    obtain ⟨ds, e⟩ := smA_pd us h
    exact ⟨.list ds, by simp [pd, e.pd], by simpa [PyData.showable] using e.sh, by simpa [PyData.hasDict] using e.nd, by simp [PyData.depth, dpU, e.dp], by simpa [PyData.leavesShort] using e.ls, by simpa [PyData.weight, wtU] using e.wt, by simpa [PyData.canLay0] using e.cl⟩
  | .dct _ _, h => by simp [smU] at h
  | .dcT _ _, h => by simp [smU] at h
  | .obj _ _ _, h => by simp [smU] at h
  | .top _, h => by simp [smU] at h
  | .frl _, h => by simp [smU] at h
  | .loc _, h => by simp [smU] at h
  | .exc _, h => by simp [smU] at h
theorem smA_pd : ∀ us : List U, smA us = true → ∃ ds, SmDA us ds
  | [], _ => ⟨[], rfl, rfl, rfl, rfl, rfl, Nat.le_refl _, rfl⟩
  | u :: us, h => by
    have h : smU u = true ∧ smA us = true := by simpa [smA] using h
    obtain ⟨d, e⟩ := sm_pd u h.1
    obtain ⟨ds, f⟩ := smA_pd us h.2
    have w1 := e.wt
    have w2 := f.wt
    exact ⟨d :: ds, by simp [pdAll, e.pd, f.pd], by simp [PyData.showableAll, e.sh, f.sh], by simp [PyData.hasDictAll, e.nd, f.nd], by simp [PyData.depthAll, dpA, e.dp, f.dp], by simp [PyData.leavesShortAll, e.ls, f.ls], by simp only [PyData.weightAll, wtA]; omega, by simp [PyData.canLayAll0, e.cl, f.cl]⟩
end
theorem repr_sm {u : U} (h : smU u = true) (hd : dpU u ≤ 60) (hw : wtU u ≤ 1000000) : ∃ x, reprU u = some (.str x) := by
  obtain ⟨d, e⟩ := sm_pd u h
  refine ⟨d.shown, ?_⟩
  have hs := PyData.shown_fits (B := 13) (by decide) (by decide) e.ls (by have := e.wt; omega)
  have hdd := e.dp
  unfold reprU
  rw [e.pd]
  exact if_pos ⟨e.sh, e.nd, by omega, hs⟩
mutual
def nbU : U → Bool
  | .int _ => true
  | .non => true
  | .str x => PyData.strOk x
  | .tup us => nbA us
  | .lst us => nbA us
  | _ => false
def nbA : List U → Bool
  | [] => true
  | u :: us => nbU u && nbA us
end
structure NbD (u : U) (d : PyData) : Prop where
  pd : pd u = some d
  dp : d.depth = dpU u
  cl : d.canLay0 = true
structure NbDA (us : List U) (ds : List PyData) : Prop where
  pd : pdAll us = some ds
  dp : PyData.depthAll ds = dpA us
  cl : PyData.canLayAll0 ds = true
mutual
theorem nb_pd : ∀ u : U, nbU u = true → ∃ d, NbD u d
  | .non, _ => ⟨.none, rfl, rfl, rfl⟩
  | .int i, _ => ⟨.int i, rfl, rfl, rfl⟩
  | .str x, h => ⟨.str x, rfl, rfl, by simpa [nbU, PyData.canLay0] using h⟩
  | .tup us, h => by
    obtain ⟨ds, e⟩ := nbA_pd us h
    exact ⟨.tuple ds, by simp [pd, e.pd], by simp [PyData.depth, dpU, e.dp], by simpa [PyData.canLay0] using e.cl⟩
  | .lst us, h => by
    obtain ⟨ds, e⟩ := nbA_pd us h
    exact ⟨.list ds, by simp [pd, e.pd], by simp [PyData.depth, dpU, e.dp], by simpa [PyData.canLay0] using e.cl⟩
  | .bl _, h => by simp [nbU] at h
  | .dct _ _, h => by simp [nbU] at h
  | .dcT _ _, h => by simp [nbU] at h
  | .obj _ _ _, h => by simp [nbU] at h
  | .top _, h => by simp [nbU] at h
  | .frl _, h => by simp [nbU] at h
  | .loc _, h => by simp [nbU] at h
  | .exc _, h => by simp [nbU] at h
theorem nbA_pd : ∀ us : List U, nbA us = true → ∃ ds, NbDA us ds
  | [], _ => ⟨[], rfl, rfl, rfl⟩
  | u :: us, h => by
    have h : nbU u = true ∧ nbA us = true := by simpa [nbA] using h
    obtain ⟨d, e⟩ := nb_pd u h.1
    obtain ⟨ds, f⟩ := nbA_pd us h.2
    exact ⟨d :: ds, by simp [pdAll, e.pd, f.pd], by simp [PyData.depthAll, dpA, e.dp, f.dp], by simp [PyData.canLayAll0, e.cl, f.cl]⟩
end
theorem pdAll_cons {u : U} {us : List U} {ds : List PyData} (h : pdAll (u :: us) = some ds) : ∃ d r, ds = d :: r ∧ pd u = some d ∧ pdAll us = some r := by
  rw [pdAll] at h
  cases e : pd u with
  | none => rw [e] at h; cases h
  | some d =>
    cases f : pdAll us with
    | none => rw [e, f] at h; cases h
    | some r => rw [e, f] at h; cases h; exact ⟨d, r, rfl, rfl, rfl⟩
theorem pd_tup {us : List U} {d : PyData} (h : pd (.tup us) = some d) : ∃ ds, d = .tuple ds ∧ pdAll us = some ds := by
  obtain ⟨ds, e, rfl⟩ := Option.map_eq_some_iff.mp (show (pdAll us).map .tuple = some d from h)
  exact ⟨ds, rfl, e⟩
theorem pd_lst {us : List U} {d : PyData} (h : pd (.lst us) = some d) : ∃ ds, d = .list ds ∧ pdAll us = some ds := by
  obtain ⟨ds, e, rfl⟩ := Option.map_eq_some_iff.mp (show (pdAll us).map .list = some d from h)
  exact ⟨ds, rfl, e⟩
mutual
theorem eqv_iff : ∀ (u v : U) (d e : PyData), nbU u = true → nbU v = true → pd u = some d → pd v = some e → (PyData.eqv d e = true ↔ u = v)
  | .non, v, d, e, _, hv, e1, e2 => by
    cases e1
    cases v <;> simp [nbU] at hv <;> first
      | (cases e2; simp [PyData.eqv])
      | (obtain ⟨ds, rfl, _⟩ := pd_tup e2; simp [PyData.eqv])
      | (obtain ⟨ds, rfl, _⟩ := pd_lst e2; simp [PyData.eqv])
  | .int i, v, d, e, _, hv, e1, e2 => by
    cases e1
    cases v <;> simp [nbU] at hv <;> first
      | (cases e2; simp [PyData.eqv])
      | (obtain ⟨ds, rfl, _⟩ := pd_tup e2; simp [PyData.eqv])
      | (obtain ⟨ds, rfl, _⟩ := pd_lst e2; simp [PyData.eqv])
  | .str i, v, d, e, _, hv, e1, e2 => by
    cases e1
    cases v <;> simp [nbU] at hv <;> first
      | (cases e2; simp [PyData.eqv])
      | (obtain ⟨ds, rfl, _⟩ := pd_tup e2; simp [PyData.eqv])
      | (obtain ⟨ds, rfl, _⟩ := pd_lst e2; simp [PyData.eqv])
  | .tup us, v, d, e, hu, hv, e1, e2 => by
    obtain ⟨ds, rfl, f⟩ := pd_tup e1
    cases v with
    | tup vs =>
      obtain ⟨es, rfl, g⟩ := pd_tup e2
      rw [PyData.eqv, eqvA_iff us vs ds es hu hv f g]
      simp
    | lst vs => obtain ⟨es, rfl, g⟩ := pd_lst e2; simp [PyData.eqv]
    | non => cases e2; simp [PyData.eqv]
    | int _ => cases e2; simp [PyData.eqv]
    | str _ => cases e2; simp [PyData.eqv]
    | _ => simp [nbU] at hv
  | .lst us, v, d, e, hu, hv, e1, e2 => by
    obtain ⟨ds, rfl, f⟩ := pd_lst e1
    cases v with
    | lst vs =>
      obtain ⟨es, rfl, g⟩ := pd_lst e2
      rw [PyData.eqv, eqvA_iff us vs ds es hu hv f g]
      simp
    | tup vs => obtain ⟨es, rfl, g⟩ := pd_tup e2; simp [PyData.eqv]
    | non => cases e2; simp [PyData.eqv]
    | int _ => cases e2; simp [PyData.eqv]
    | str _ => cases e2; simp [PyData.eqv]
    | _ => simp [nbU] at hv
  | .bl _, _, _, _, h, _, _, _ => by simp [nbU] at h
  | .dct _ _, _, _, _, h, _, _, _ => by simp [nbU] at h
  | .dcT _ _, _, _, _, h, _, _, _ => by simp [nbU] at h
  | .obj _ _ _, _, _, _, h, _, _, _ => by simp [nbU] at h
  | .top _, _, _, _, h, _, _, _ => by simp [nbU] at h
  | .frl _, _, _, _, h, _, _, _ => by simp [nbU] at h
  | .loc _, _, _, _, h, _, _, _ => by simp [nbU] at h
  | .exc _, _, _, _, h, _, _, _ => by simp [nbU] at h
theorem eqvA_iff : ∀ (us vs : List U) (ds es : List PyData), nbA us = true → nbA vs = true → pdAll us = some ds → pdAll vs = some es → (PyData.eqvAll ds es = true ↔ us = vs)
  | [], [], ds, es, _, _, e1, e2 => by cases e1; cases e2; simp [PyData.eqvAll]
  | [], v :: vs, ds, es, _, _, e1, e2 => by
    cases e1
    obtain ⟨d, r, rfl, _, _⟩ := pdAll_cons e2
    simp [PyData.eqvAll]
  | u :: us, [], ds, es, _, _, e1, e2 => by
    cases e2
    obtain ⟨d, r, rfl, _, _⟩ := pdAll_cons e1
    simp [PyData.eqvAll]
  | u :: us, v :: vs, ds, es, hu, hv, e1, e2 => by
    have hu : nbU u = true ∧ nbA us = true := by simpa [nbA] using hu
    have hv : nbU v = true ∧ nbA vs = true := by simpa [nbA] using hv
    obtain ⟨d, r, rfl, f1, f2⟩ := pdAll_cons e1
    obtain ⟨e, s, rfl, g1, g2⟩ := pdAll_cons e2
    rw [PyData.eqvAll, Bool.and_eq_true_iff, eqv_iff u v d e hu.1 hv.1 f1 g1, eqvA_iff us vs r s hu.2 hv.2 f2 g2]
    simp
end
theorem eqD_nb {u v : U} (hu : nbU u = true) (hv : nbU v = true) (du : dpU u ≤ 64) (dv : dpU v ≤ 64) {b : Bool} (hb : b = true ↔ u = v) : eqD u v = some (.bl b) := by
  obtain ⟨d, e⟩ := nb_pd u hu
  obtain ⟨d', e'⟩ := nb_pd v hv
  have h := eqv_iff u v d d' hu hv e.pd e'.pd
  have s1 : SeqAt.shaped d = true := by simp only [SeqAt.shaped, e.cl, e.dp, Bool.true_and]; exact decide_eq_true du
  have s2 : SeqAt.shaped d' = true := by simp only [SeqAt.shaped, e'.cl, e'.dp, Bool.true_and]; exact decide_eq_true dv
  unfold eqD
  rw [e.pd, e'.pd]
  have : PyData.eqv d d' = b := by rw [Bool.eq_iff_iff, h, hb]
  simp only [s1, s2, this, and_self, if_true]
theorem neD_nb {u v : U} (hu : nbU u = true) (hv : nbU v = true) (du : dpU u ≤ 64) (dv : dpU v ≤ 64) {b : Bool} (hb : b = true ↔ u = v) : neD u v = some (.bl (!b)) := by
  obtain ⟨d, e⟩ := nb_pd u hu
  obtain ⟨d', e'⟩ := nb_pd v hv
  have h := eqv_iff u v d d' hu hv e.pd e'.pd
  have s1 : SeqAt.shaped d = true := by simp only [SeqAt.shaped, e.cl, e.dp, Bool.true_and]; exact decide_eq_true du
  have s2 : SeqAt.shaped d' = true := by simp only [SeqAt.shaped, e'.cl, e'.dp, Bool.true_and]; exact decide_eq_true dv
  unfold neD
  rw [e.pd, e'.pd]
  have : PyData.eqv d d' = b := by rw [Bool.eq_iff_iff, h, hb]
  simp only [s1, s2, this, and_self, if_true]
theorem eqU_nb {u v : U} (hu : nbU u = true) (hv : nbU v = true) (du : dpU u ≤ 64) (dv : dpU v ≤ 64) {b : Bool} (hb : b = true ↔ u = v) : eqU u v = some (.bl b) := by
  cases u with
  | str x =>
    cases v with
    | str y => exact eqU_str (by rw [Bool.eq_iff_iff, hb]; simp)
    | _ => exact eqD_nb hu hv du dv hb
  | _ => exact eqD_nb hu hv du dv hb
theorem neU_nb {u v : U} (hu : nbU u = true) (hv : nbU v = true) (du : dpU u ≤ 64) (dv : dpU v ≤ 64) {b : Bool} (hb : b = true ↔ u = v) : neU u v = some (.bl (!b)) := by
  cases u with
  | str x =>
    cases v with
    | str y => exact neU_str (by congr 1; rw [Bool.eq_iff_iff, hb]; simp)
    | _ => exact neD_nb hu hv du dv hb
  | _ => exact neD_nb hu hv du dv hb
theorem nbA_map {τ : Type} {c : τ → U} : ∀ {xs : List τ}, (∀ x ∈ xs, nbU (c x) = true) → nbA (xs.map c) = true
  | [], _ => rfl
  | x :: xs, h => by simp [nbA, h x List.mem_cons_self, nbA_map fun y m => h y (List.mem_cons_of_mem _ m)]
theorem dpA_map {τ : Type} {c : τ → U} {k : Nat} : ∀ {xs : List τ}, (∀ x ∈ xs, dpU (c x) ≤ k) → dpA (xs.map c) ≤ k
  | [], _ => Nat.zero_le _
  | x :: xs, h => by
    have := dpA_map (xs := xs) fun y m => h y (List.mem_cons_of_mem _ m)
    have := h x List.mem_cons_self
    rw [List.map_cons, dpA]
    omega
theorem nb_ints (xs : List Int) : nbA (xs.map .int) = true := nbA_map fun _ _ => rfl
theorem dp_ints (xs : List Int) : dpA (xs.map .int) = 0 := Nat.le_zero.mp (dpA_map fun _ _ => Nat.le_refl 0)
theorem map_inj {τ : Type} {c : τ → U} (hc : ∀ x y, c x = c y → x = y) : ∀ {a b : List τ}, a.map c = b.map c ↔ a = b
  | [], [] => by simp
  | [], _ :: _ => by simp
  | _ :: _, [] => by simp
  | x :: a, y :: b => by
    rw [List.map_cons, List.map_cons, List.cons.injEq, List.cons.injEq, map_inj hc (a := a) (b := b)]
    exact ⟨fun h => ⟨hc x y h.1, h.2⟩, fun h => ⟨by rw [h.1], h.2⟩⟩
theorem map_int_inj {a b : List Int} : a.map U.int = b.map U.int ↔ a = b := map_inj fun x y e => by cases e; rfl
end UX

set_option Elab.async false
set_option linter.all false
set_option maxRecDepth 100000
set_option maxHeartbeats 4000000
set_option autoImplicit false
namespace UX
open PySem PySem.Spec L2
section
variable {P : U → Prop} {i j : Int} {a b : List U} {x y : Str}
theorem wo_add_i (h : P (.int (i + j))) : WpO (addU (.int i) (.int j)) P := ⟨_, rfl, h⟩
theorem wo_add_t (l : a.length + b.length ≤ sizeLine) (h : P (.tup (a ++ b))) : WpO (addU (.tup a) (.tup b)) P := ⟨_, if_pos l, h⟩
theorem wo_add_l (l : a.length + b.length ≤ sizeLine) (h : P (.lst (a ++ b))) : WpO (addU (.lst a) (.lst b)) P := ⟨_, if_pos l, h⟩
theorem wo_sub (h : P (.int (i - j))) : WpO (subU (.int i) (.int j)) P := ⟨_, rfl, h⟩
theorem wo_mul (c : (-18446744073709551616 < i ∧ i < 18446744073709551616) ∨ (-18446744073709551616 < j ∧ j < 18446744073709551616)) (h : P (.int (i * j))) : WpO (mulU (.int i) (.int j)) P := ⟨_, if_pos c, h⟩
theorem wo_mod (c : j ≠ 0) (h : P (.int (i.fmod j))) : WpO (modU (.int i) (.int j)) P := ⟨_, if_pos c, h⟩
theorem wo_modp (c : 0 < j) (h : ∀ r : Int, r = i.fmod j → 0 ≤ r → r < j → P (.int r)) : WpO (modU (.int i) (.int j)) P := ⟨_, if_pos (by omega), h _ rfl (Int.fmod_nonneg_of_pos _ c) (Int.fmod_lt_of_pos _ c)⟩
theorem wo_fdiv (c : j ≠ 0) (c2 : j.natAbs < 1073741824) (h : P (.int (i.fdiv j))) : WpO (fdivU (.int i) (.int j)) P := ⟨_, if_pos ⟨c, c2⟩, h⟩
theorem wo_neg (h : P (.int (-i))) : WpO (negU (.int i)) P := ⟨_, rfl, h⟩
theorem wo_le (h : P (.bl (decide (i ≤ j)))) : WpO (leU (.int i) (.int j)) P := ⟨_, rfl, h⟩
theorem wo_lt (h : P (.bl (decide (i < j)))) : WpO (ltU (.int i) (.int j)) P := ⟨_, rfl, h⟩
theorem wo_gt (h : P (.bl (decide (j < i)))) : WpO (gtU (.int i) (.int j)) P := ⟨_, rfl, h⟩
theorem wo_ge (h : P (.bl (decide (j ≤ i)))) : WpO (geU (.int i) (.int j)) P := ⟨_, rfl, h⟩
theorem wo_eq_i (h : P (.bl (decide (i = j)))) : WpO (eqU (.int i) (.int j)) P := ⟨_, eqU_int i j, h⟩
theorem neU_i (i j : Int) : neU (.int i) (.int j) = some (.bl (!decide (i = j))) := neU_nb (u := .int i) (v := .int j) rfl rfl (Nat.zero_le _) (Nat.zero_le _) (b := decide (i = j)) (by simp)
theorem wo_ne_i (h : P (.bl (!decide (i = j)))) : WpO (neU (.int i) (.int j)) P := ⟨_, neU_i i j, h⟩
theorem wo_eq_s (h : P (.bl (decide (x = y)))) : WpO (eqU (.str x) (.str y)) P := ⟨_, rfl, h⟩
theorem wo_ne_s (h : P (.bl (!decide (x = y)))) : WpO (neU (.str x) (.str y)) P := ⟨_, rfl, h⟩
theorem wo_not {t : Bool} (h : P (.bl (!t))) : WpO (notU (.bl t)) P := ⟨_, rfl, h⟩
theorem wo_bool {t : Bool} {P : Bool → Prop} (h : P t) : WpO (boolU (.bl t)) P := ⟨_, rfl, h⟩
theorem wo_int {P : Int → Prop} (h : P i) : WpO (intU (.int i)) P := ⟨_, rfl, h⟩
theorem wo_len_t (h : P (.int a.length)) : WpO (lenU (.tup a)) P := ⟨_, rfl, h⟩
theorem wo_len_l (h : P (.int a.length)) : WpO (lenU (.lst a)) P := ⟨_, rfl, h⟩
theorem wo_len_f (h : P (.int a.length)) : WpO (lenU (.frl a)) P := ⟨_, rfl, h⟩
theorem wo_tuple_l (h : P (.tup a)) : WpO (tupleU (.lst a)) P := ⟨_, rfl, h⟩
theorem wo_tuple_t (h : P (.tup a)) : WpO (tupleU (.tup a)) P := ⟨_, rfl, h⟩
theorem wo_list_l (h : P (.lst a)) : WpO (listU (.lst a)) P := ⟨_, rfl, h⟩
theorem wo_list_t (h : P (.lst a)) : WpO (listU (.tup a)) P := ⟨_, rfl, h⟩
theorem wo_it_t {P : List U → Prop} (h : P a) : WpO (itU (.tup a)) P := ⟨_, rfl, h⟩
theorem wo_it_l {P : List U → Prop} (h : P a) : WpO (itU (.lst a)) P := ⟨_, rfl, h⟩
theorem wo_it_f {P : List U → Prop} (h : P a) : WpO (itU (.frl a)) P := ⟨_, rfl, h⟩
theorem wo_rng1 {P : List U → Prop} (c : -1000000000 < i ∧ i < 1000000000) (h : P ((List.range i.toNat).map fun i => .int (i : Nat))) : WpO (rng1U (.int i)) P := ⟨_, if_pos ⟨by omega, by omega⟩, h⟩
theorem wo_rng2 {P : List U → Prop} (c : -1000000000 < i ∧ i < 1000000000) (c2 : -1000000000 < j ∧ j < 1000000000) (h : P ((List.range (j - i).toNat).map fun k => .int (i + (k : Nat)))) : WpO (rng2U (.int i) (.int j)) P := ⟨_, if_pos ⟨⟨by omega, by omega⟩, ⟨by omega, by omega⟩⟩, h⟩
theorem atI_get {us : List U} {k : Nat} {u : U} (h : us[k]? = some u) : atI us (k : Int) = some u := by
  have hk : k < us.length := getElem?_lt h
  unfold atI ixN
  rw [if_pos (by omega), if_pos (by omega)]
  simpa using h
theorem wo_ix_t {u : U} (e : atI a i = some u) (h : P u) : WpO (ixU (.tup a) (.int i)) P := ⟨u, e, h⟩
theorem wo_ix_l {u : U} (e : atI a i = some u) (h : P u) : WpO (ixU (.lst a) (.int i)) P := ⟨u, e, h⟩
theorem wo_sl_t {l h' : Option Int} (h : P (.tup (EL.cut a l h'))) : WpO (slU (.tup a) l h') P := ⟨_, rfl, h⟩
theorem wo_sl_l {l h' : Option Int} (h : P (.lst (EL.cut a l h'))) : WpO (slU (.lst a) l h') P := ⟨_, rfl, h⟩
theorem wo_zip_tt {P : List U → Prop} (h : P (zipL a b)) : WpO (zipU (.tup a) (.tup b)) P := ⟨_, rfl, h⟩
theorem wo_app {h' : U → U} {u : U} {P : U × U → Prop} (l : a.length < sizeLine) (h : P (.non, h' (.lst (a ++ [u])))) : WpO (mutL appL (.lst a, h') [u]) P := ⟨_, by
  have e : appL a [u] = some (.non, a ++ [u]) := if_pos l
  show (appL a [u]).map _ = _
  rw [e]; rfl, h⟩
theorem wo_ext {h' : U → U} {P : U × U → Prop} (l : a.length + b.length ≤ sizeLine) (h : P (.non, h' (.lst (a ++ b)))) : WpO (mutL extL (.lst a, h') [.lst b]) P := ⟨_, by
  have e : extL a [.lst b] = some (.non, a ++ b) := if_pos l
  show (extL a [.lst b]).map _ = _
  rw [e]; rfl, h⟩
end
theorem wo_isObj {c m : Str} {u x : U} {P : U → Prop} (e : isObj c m u = some x) (h : P x) : WpO (isObj c m u) P := ⟨x, e, h⟩
theorem wo_fld {cs : List Str} {f : Str} {u x : U} {P : U → Prop} (e : fldU cs f u = some x) (h : P x) : WpO (fldU cs f u) P := ⟨x, e, h⟩
theorem if_nt {A B : Prop} (h : B) : IfP (!true) A B := h
theorem if_nf {A B : Prop} (h : A) : IfP (!false) A B := h
theorem lit_le {n : Nat} (h : Nat.ble n sizeLine = true) : n ≤ sizeLine := Nat.le_of_ble_eq_true h
end UX

set_option Elab.async false
set_option linter.all false
set_option maxRecDepth 100000
set_option maxHeartbeats 4000000
set_option autoImplicit false
namespace UX
open PySem PySem.Spec L2
section
variable {α S S' L : Type} {st : Sto} {Q : U → Sto → Prop} {QA : List U → Sto → Prop}
theorem vs_bind2 {Q : α → Sto → Prop} {w : M (U × U)} {k : U → U → M α} (h : Wp w st fun p s => Wp (k p.1 p.2) s Q) : Wp (.bind2 w k) st Q := .bind h
theorem vs_bindS {Q : α → Sto → Prop} {w : M (U × U)} {k : U → M α} (h : Wp w st fun p s => Wp (k p.2) s Q) : Wp (.bindS w k) st Q := .bind h
theorem vs_enum {w : M U} (h : Wp w st fun u s => WpO (enumU u) fun r => QA r s) : Wp (enumW w) st QA := .bind (h.mono fun _ _ h => vs_o h)
theorem vs_keys {w : M U} (h : Wp w st fun u s => WpO (keysL u) fun r => QA r s) : Wp (keysW w) st QA := .bind (h.mono fun _ _ h => vs_o h)
theorem vs_tupR {w : M (List U)} (h : Wp w st fun us s => us.length ≤ sizeLine ∧ Q (.tup us) s) : Wp (tupRW w) st Q := .bind (h.mono fun _ _ ⟨l, q⟩ => .o (if_pos l) q)
theorem vs_lstR {w : M (List U)} (h : Wp w st fun us s => us.length ≤ sizeLine ∧ Q (.lst us) s) : Wp (lstRW w) st Q := .bind (h.mono fun _ _ ⟨l, q⟩ => .o (if_pos l) q)
theorem vs_xitem {QX : U × U → Sto → Prop} {wd : M U} {wx : M (U × U)} (h : Wp wd st fun d s => Wp wx s fun p s => WpO (itemU d p.1) fun u => QX (u, p.2) s) : Wp (xitemM wd wx) st QX :=
  .bind (h.mono fun d _ h => .bind (h.mono fun p _ ⟨u, e, q⟩ => .o (by rw [e]; rfl) q))
theorem vs_itX {QX : List U × U → Sto → Prop} {w : M (U × U)} (h : Wp w st fun p s => WpO (itU p.1) fun us => QX (us, p.2) s) : Wp (itX w) st QX :=
  .bind (h.mono fun p _ ⟨u, e, q⟩ => .o (by rw [e]; rfl) q)
theorem vs_while {τ : Type} {e : τ → S} {c : S → M Bool} {b : S → M (Out S S)} {Q : Out S L → Sto → Prop} (I : τ → Sto → Prop) (μ : τ → Nat)
    (hs : ∀ t st, I t st → Wp (c (e t)) st fun k st' => IfP k (Wp (b (e t)) st' (ForK (fun s' st'' => ∃ t', s' = e t' ∧ I t' st'' ∧ μ t' < μ t) Q)) (Q (.nx (e t)) st')) {t0 : τ} {s0 : S} (he : s0 = e t0) (h0 : I t0 st) : Wp (whileO c b s0) st Q := by
  subst he
  refine Wp.while (fun n s st => ∃ t, s = e t ∧ n = μ t ∧ I t st) ?_ (n := μ t0) ⟨t0, rfl, rfl, h0⟩
  rintro n _ st ⟨t, rfl, rfl, hi⟩
  refine (hs t st hi).mono fun k st' q => ?_
  cases k with
  | false => exact q
  | true =>
    refine Wp.mono (show Wp (b (e t)) st' _ from q) fun o st'' q => ?_
    cases o with
    | nx s' => obtain ⟨t', rfl, h1, h2⟩ := q; exact ⟨_, h2, t', rfl, rfl, h1⟩
    | ct s' => obtain ⟨t', rfl, h1, h2⟩ := q; exact ⟨_, h2, t', rfl, rfl, h1⟩
    | bk s' => exact q
    | rt u => exact q
end
section
variable {P : U → Prop} {i j : Int} {a b : List U} {x y : Str}
theorem wo_ix0 {a : Int} {r : List Int} (h : P (.int a)) : WpO (ixU (tupI (a :: r)) (.int 0)) P := ⟨.int a, atI_get (us := (a :: r).map U.int) (k := 0) rfl, h⟩
theorem wo_ix1 {a b : Int} {r : List Int} (h : P (.int b)) : WpO (ixU (tupI (a :: b :: r)) (.int 1)) P := ⟨.int b, atI_get (us := (a :: b :: r).map U.int) (k := 1) rfl, h⟩
theorem wo_ix2 {a b c : Int} {r : List Int} (h : P (.int c)) : WpO (ixU (tupI (a :: b :: c :: r)) (.int 2)) P := ⟨.int c, atI_get (us := (a :: b :: c :: r).map U.int) (k := 2) rfl, h⟩
theorem wo_enum_t {P : List U → Prop} (h : P (enumL a)) : WpO (enumU (.tup a)) P := ⟨_, rfl, h⟩
theorem wo_enum_l {P : List U → Prop} (h : P (enumL a)) : WpO (enumU (.lst a)) P := ⟨_, rfl, h⟩
theorem fVs_ints : ∀ xs : List Int, fVs (xs.map .int) = some (xs.map V.int)
  | [] => rfl
  | x :: xs => by rw [List.map_cons, fVs, fVs_ints xs]; rfl
theorem inV_ints (i : Int) (xs : List Int) : inV (.int i) (xs.map V.int) = decide (i ∈ xs) := by
  unfold inV
  rw [List.any_map, Bool.eq_iff_iff, List.any_eq_true, decide_eq_true_eq]
  constructor
  · rintro ⟨z, m, e⟩
    have : z = i := by simpa [eqV] using e
    exact this ▸ m
  · intro m
    exact ⟨i, m, by simp [eqV]⟩
theorem inB_t (i : Int) (xs : List Int) : inB (.int i) (.tup (xs.map .int)) = some (decide (i ∈ xs)) := by
  show (fVs (xs.map .int)).map (fun vs => inV (.int i) vs) = _
  rw [fVs_ints, Option.map_some, inV_ints]
theorem inB_l (i : Int) (xs : List Int) : inB (.int i) (.lst (xs.map .int)) = some (decide (i ∈ xs)) := by
  show (fVs (xs.map .int)).map (fun vs => inV (.int i) vs) = _
  rw [fVs_ints, Option.map_some, inV_ints]
theorem wo_in_t {xs : List Int} (h : P (.bl (decide (i ∈ xs)))) : WpO (inSU (.int i) (.tup (xs.map .int))) P := ⟨_, by unfold inSU; rw [inB_t]; rfl, h⟩
theorem wo_in_l {xs : List Int} (h : P (.bl (decide (i ∈ xs)))) : WpO (inSU (.int i) (.lst (xs.map .int))) P := ⟨_, by unfold inSU; rw [inB_l]; rfl, h⟩
theorem wo_nin_t {xs : List Int} (h : P (.bl (!decide (i ∈ xs)))) : WpO (notInSU (.int i) (.tup (xs.map .int))) P := ⟨_, by unfold notInSU; rw [inB_t]; rfl, h⟩
theorem wo_nin_l {xs : List Int} (h : P (.bl (!decide (i ∈ xs)))) : WpO (notInSU (.int i) (.lst (xs.map .int))) P := ⟨_, by unfold notInSU; rw [inB_l]; rfl, h⟩
theorem eq_bl (s t : Bool) : eqU (.bl s) (.bl t) = some (.bl (s == t)) := by cases s <;> cases t <;> rfl
theorem ne_bl (s t : Bool) : neU (.bl s) (.bl t) = some (.bl (!(s == t))) := by cases s <;> cases t <;> rfl
theorem wo_eq_b {s t : Bool} (h : P (.bl (s == t))) : WpO (eqU (.bl s) (.bl t)) P := ⟨_, eq_bl s t, h⟩
theorem wo_ne_b {s t : Bool} (h : P (.bl (!(s == t)))) : WpO (neU (.bl s) (.bl t)) P := ⟨_, ne_bl s t, h⟩
end
section
variable {ν : Type} {vf : ν → U}
def keyI (x : List Int) : List Key := x.map Sum.inl
def dTU (vf : ν → U) (D : List (List Int × ν)) : U := .dcT (D.map fun p => keyI p.1) (D.map fun p => vf p.2)
theorem keysU_ints : ∀ x : List Int, keysU (x.map .int) = some (keyI x)
  | [] => rfl
  | i :: x => by rw [List.map_cons, keysU, keysU_ints x]; rfl
theorem tkey_tupI (x : List Int) : tkeyU (tupI x) = some (keyI x) := keysU_ints x
theorem keyI_inj : ∀ {x y : List Int}, keyI x = keyI y → x = y
  | [], [], _ => rfl
  | [], _ :: _, h => by simp [keyI] at h
  | _ :: _, [], h => by simp [keyI] at h
  | i :: x, j :: y, h => by
    have h : i = j ∧ x.map Sum.inl = (y.map Sum.inl : List Key) := by simpa [keyI] using h
    rw [h.1, keyI_inj (x := x) (y := y) h.2]
theorem idx_dT (x : List Int) : ∀ D : List (List Int × ν), match D.lookup x with
    | some v => ∃ j, idxK (keyI x) (D.map fun p => keyI p.1) = some j ∧ (D.map fun p => vf p.2)[j]? = some (vf v)
    | none => idxK (keyI x) (D.map fun p => keyI p.1) = none
  | [] => rfl
  | (k, v) :: D => by
    have ih := idx_dT x D
    rw [List.lookup_cons]
    by_cases h : x = k
    · subst h
      rw [show (x == x) = true from by simp]
      exact ⟨0, by rw [List.map_cons, idxK, if_pos rfl], rfl⟩
    · rw [show (x == k) = false from by simpa using h]
      have hk : ¬ keyI k = keyI x := fun e => h (keyI_inj e).symm
      cases e : D.lookup x with
      | none =>
        rw [e] at ih
        simp only at ih ⊢
        rw [List.map_cons, idxK, if_neg hk, ih]; rfl
      | some w =>
        rw [e] at ih
        simp only at ih ⊢
        obtain ⟨j, h1, h2⟩ := ih
        exact ⟨j + 1, by rw [List.map_cons, idxK, if_neg hk, h1]; rfl, by simpa using h2⟩
theorem getU_dT (x : List Int) (D : List (List Int × ν)) : getU (dTU vf D) (tupI x) = some ((D.lookup x).map vf) := by
  have h := idx_dT (vf := vf) x D
  unfold dTU
  simp only [getU, tkey_tupI]
  cases e : D.lookup x with
  | none => rw [e] at h; simp only at h; rw [h]; rfl
  | some v =>
    rw [e] at h
    obtain ⟨j, h1, h2⟩ := h
    simp only [h1, h2]
    rfl
theorem wo_dTin {x : List Int} {D : List (List Int × ν)} {P : U → Prop} (h : P (.bl (D.lookup x).isSome)) : WpO (inU (tupI x) (dTU vf D)) P := ⟨_, by unfold inU; rw [getU_dT]; simp, h⟩
theorem wo_dTnin {x : List Int} {D : List (List Int × ν)} {P : U → Prop} (h : P (.bl (!(D.lookup x).isSome))) : WpO (notInU (tupI x) (dTU vf D)) P := ⟨_, by unfold notInU; rw [getU_dT]; simp, h⟩
theorem wo_dTput {x : List Int} {D : List (List Int × ν)} {v : ν} {P : U → Prop} (e : D.lookup x = none) (l : D.length < sizeLine) (h : P (dTU vf (D ++ [(x, v)]))) : WpO (putU (dTU vf D) (tupI x) (vf v)) P := by
  refine ⟨_, ?_, h⟩
  have hi := idx_dT (vf := vf) x D
  rw [e] at hi
  simp only at hi
  unfold dTU
  simp only [putU, tkey_tupI, List.length_map, if_pos l, hi, List.map_append, List.map_cons, List.map_nil]
theorem wo_dTkeys {D : List (List Int × ν)} {P : List U → Prop} (h : P ((D.map Prod.fst).map tupI)) : WpO (keysL (dTU vf D)) P := ⟨_, by
  show some ((D.map fun p => keyI p.1).map fun k => U.tup (k.map kU)) = _
  rw [List.map_map, List.map_map]
  congr 1
  refine List.map_congr_left fun p _ => ?_
  simp only [Function.comp_apply, tupI, keyI, List.map_map]
  congr 1, h⟩
theorem lkT_mem {D : List (List Int × ν)} {x : List Int} {v : ν} (h : D.lookup x = some v) : (x, v) ∈ D := by
  induction D with
  | nil => cases h
  | cons p D ih =>
    obtain ⟨k, w⟩ := p
    rw [List.lookup_cons] at h
    by_cases hx : x = k
    · subst hx
      rw [show (x == x) = true from by simp] at h
      cases h
      exact List.mem_cons_self
    · rw [show (x == k) = false from by simpa using hx] at h
      exact List.mem_cons_of_mem _ (ih h)
theorem lookup_some {D : List (List Int × ν)} {x : List Int} (h : x ∈ D.map Prod.fst) : ∃ v, D.lookup x = some v := by
  induction D with
  | nil => cases h
  | cons p D ih =>
    obtain ⟨k, w⟩ := p
    rw [List.lookup_cons]
    by_cases hx : x = k
    · subst hx
      rw [show (x == x) = true from by simp]
      exact ⟨w, rfl⟩
    · rw [show (x == k) = false from by simpa using hx]
      rcases List.mem_cons.mp h with e | m
      · exact absurd e hx
      · exact ih m
theorem lookup_none {D : List (List Int × ν)} {x : List Int} : D.lookup x = none ↔ x ∉ D.map Prod.fst := by
  constructor
  · intro h m
    obtain ⟨v, e⟩ := lookup_some m
    rw [h] at e; cases e
  · intro h
    cases e : D.lookup x with
    | none => rfl
    | some v => exact absurd (List.mem_map_of_mem (f := Prod.fst) (lkT_mem e)) h
theorem lookup_isSome {D : List (List Int × ν)} {x : List Int} : (D.lookup x).isSome = decide (x ∈ D.map Prod.fst) := by
  by_cases h : x ∈ D.map Prod.fst
  · obtain ⟨v, e⟩ := lookup_some h
    rw [e, decide_eq_true h]; rfl
  · rw [lookup_none.mpr h, decide_eq_false h]; rfl
end
theorem nodup_len : ∀ (n : Nat) (l : List Int), l.Nodup → (∀ x ∈ l, 0 ≤ x ∧ x < (n : Int)) → l.length ≤ n
  | 0, [], _, _ => Nat.le_refl _
  | 0, x :: l, _, h => by have := h x List.mem_cons_self; omega
  | n + 1, l, nd, h => by
    have hs : (l.erase (n : Int)).length ≤ n := nodup_len n _ (nd.erase _) fun x m => by
      have h1 := h x (List.mem_of_mem_erase m)
      have h2 : x ≠ (n : Int) := fun e => by subst e; exact nd.not_mem_erase m
      omega
    have : l.length ≤ (l.erase (n : Int)).length + 1 := by
      rw [List.length_erase]
      split <;> omega
    omega
end UX

set_option Elab.async false
set_option linter.all false
set_option maxRecDepth 100000
set_option maxHeartbeats 4000000
set_option autoImplicit false
namespace UX
open PySem PySem.Spec L2
section
variable {st : Sto} {Q : U → Sto → Prop}
end
end UX

set_option Elab.async false
set_option linter.all false
set_option maxRecDepth 100000
set_option maxHeartbeats 4000000
set_option autoImplicit false
namespace UX
open PySem PySem.Spec L2
section
variable {st : Sto} {Q : U → Sto → Prop}
end
end UX

set_option Elab.async false
set_option linter.all false
set_option maxRecDepth 100000
set_option maxHeartbeats 4000000
set_option autoImplicit false
namespace UX
open PySem PySem.Spec L2
section
variable {st : Sto} {Q : U → Sto → Prop}
end
end UX

set_option Elab.async false
set_option linter.all false
set_option maxRecDepth 100000
set_option maxHeartbeats 4000000
set_option autoImplicit false
namespace UX
open PySem PySem.Spec L2
section
variable {τ : Type} [DecidableEq τ] (f : τ → U)
structure KeyF : Prop where
  inj : ∀ x y, nkU (f x) = nkU (f y) → x = y
  ok : ∀ x, ∃ k, nk8 (f x) = some k
  tup : ∀ x, ∃ us, f x = .tup us
end
section
variable {τ : Type} [DecidableEq τ] {f : τ → U}
def dN (f : τ → U) (D : List (τ × U)) : U := .dcN (D.map fun p => f p.1) (D.map (·.2))
end
section
variable {α S L : Type} {st : Sto} {QA : List U → Sto → Prop}
theorem vs_keysN {w : M U} (h : Wp w st fun u s => WpO (keysN u) fun r => QA r s) : Wp (keysNW w) st QA := .bind (h.mono fun _ _ h => vs_o h)
theorem vs_un22 {Q : α → Sto → Prop} {a b c d : U} {k : U → U → U → U → M α} (h : Wp (k a b c d) st Q) : Wp (un22 (.tup [.tup [a, b], .tup [c, d]]) k) st Q := h
theorem vs_un21 {Q : α → Sto → Prop} {a b c : U} {k : U → U → U → M α} (h : Wp (k a b c) st Q) : Wp (un21 (.tup [.tup [a, b], c]) k) st Q := h
end
end UX

set_option Elab.async false
set_option linter.all false
set_option maxRecDepth 100000
set_option maxHeartbeats 4000000
set_option autoImplicit false
namespace UX
open PySem PySem.Spec PyProof.Rows L2
section
variable {α S S1 L : Type} {st : Sto} {c : Str} {Q : U → Sto → Prop}
end
end UX

set_option Elab.async false
set_option linter.all false
set_option maxRecDepth 100000
set_option maxHeartbeats 4000000
set_option autoImplicit false
namespace EK
open PySem PySem.Spec PyProof.Rows L2 UX UY
open EL (op_addK op_mulK op_eqK op_neK op_ltK sl_seqK ix_seqK op_inK op_notInK call_lenK call_tupleK call_listK call_isiK call_reprK cr_anyK cr_allK pi_seqK pi_listK pe_callG FnG rm66 op_inDK op_notInDK)
def top (i : Nat) : Stmt := PySem.Challenge.pw_endlesshall_k77_pairs_that_follow_looked.main.body.getD i (.Pass ⟨0, 0, 0, 0⟩)
def inn (i j : Nat) : Stmt := match top i with
  | .ClassDef _ _ _ b _ _ _ _ _ _ _ => b.getD j (.Pass ⟨0, 0, 0, 0⟩)
  | _ => .Pass ⟨0, 0, 0, 0⟩

def tab_KINDS : List (Str × U) := [("again", .top "are_rooms"), ("at last", .top "are_rooms"), ("pairs", .top "are_pairs"), ("ranks", .top "are_ranks")]
namespace HD
def mkD (x : Str) (i : Nat) : He.DefD := ⟨(x, none), x, x, defArgs (top i), defBody (top i), defScope (top i), [], []⟩
def mkMt (c m q : Str) (i j : Nat) : He.DefD := ⟨(c, some m), m, q, defArgs (inn i j), defBody (inn i j), defScope (inn i j), [], []⟩
def fn : List He.DefD := [mkD "_law_box" 38, mkD "_law_take" 39, mkD "_law_rooms" 40, mkD "_law_again" 41, mkD "are_rising" 7, mkD "is_whole" 5, mkD "is_below" 6, mkD "are_rising_below" 8, mkD "are_rooms" 13, mkD "are_pairs" 12, mkD "are_ranks" 14, mkD "are_ways" 11, mkD "fault_of" 17, mkMt "Hall" "__init__" "Hall.__init__" 21 0, mkD "_law_hall_of" 42, mkD "_law_ways_from" 43, mkD "_law_ends" 44, mkD "_law_direct" 45, mkD "_law_less" 48, mkD "_law_deep" 50, mkD "_law_bent" 49, mkD "pairs_of_ranks" 23, mkD "pairs_of" 24, mkD "copied_rooms" 27, mkD "copied_ways" 28, mkD "as_again" 29, mkD "seen_by" 33, mkMt "Hall" "ends" "Hall.ends" 21 1, mkD "steps_from" 31, mkD "answers" 32, mkD "is_pair" 35, mkD "shows_direct" 36, mkD "_law_is_pair" 46, mkD "_law_shows" 47, mkD "law" 51]
def fa : List He.Fa := [.glo "_law_box", .glo "_law_take", .glo "_law_rooms", .glo "_law_again", .glo "are_rising", .glo "is_whole", .glo "is_below", .glo "are_rising_below", .glo "are_rooms", .glo "are_pairs", .glo "are_ranks", .glo "are_ways", .glo "fault_of", .glo "_law_hall_of", .glo "_law_ways_from", .glo "_law_ends", .glo "_law_direct", .glo "_law_less", .glo "_law_deep", .glo "_law_bent", .glo "pairs_of_ranks", .glo "pairs_of", .glo "copied_rooms", .glo "copied_ways", .glo "as_again", .glo "seen_by", .glo "steps_from", .glo "answers", .glo "is_pair", .glo "shows_direct", .glo "_law_is_pair", .glo "_law_shows", .glo "law", .free "abs", .free "all", .free "any", .free "bool", .free "enumerate", .free "int", .free "isinstance", .free "len", .free "list", .free "max", .free "min", .free "range", .free "repr", .free "sorted", .free "str", .free "tuple", .free "zip", .glo "Hall", .cls "Hall", .mkr "Hall", .meth "Hall" "ends", .noat "Hall" "letters", .noat "Hall" "rooms", .noat "Hall" "start", .noat "Hall" "ways", .noat "Hall" "kind", .noat "Hall" "by", .noat "Hall" "goals", .glo "KINDS", .int "MOST_LETTERS" 4, .str "AGAIN" "again"]
def ts : List He.Tab := [(fun K => He.ga K "KINDS", ["again", "at last", "pairs", "ranks"])]
def vls : List Vls := [(fun K => He.ga K "KINDS", tab_KINDS.map fun p => (p.1, dvU p.2))]
def names0 : List PySem.Str := ["_wall", "HallError", "NoHall", "is_whole", "is_below", "are_rising", "are_rising_below", "MOST_LETTERS", "are_ways", "are_pairs", "are_rooms", "are_ranks", "KINDS", "WORDS", "fault_of", "joined", "by_rows", "pair_row", "Hall", "pairs_of_ranks", "pairs_of", "AGAIN", "copied_rooms", "copied_ways", "as_again", "steps_from", "answers", "seen_by", "is_pair", "shows_direct"]
def names1 : List PySem.Str := ["_law_box", "_law_take", "_law_rooms", "_law_again", "_law_hall_of", "_law_ways_from", "_law_ends", "_law_direct", "_law_is_pair", "_law_shows", "_law_less", "_law_bent", "_law_deep"]
def xs : List FaX := []
abbrev Rw : PySem.W.OpenRow := PySem.W.OpenLaw.row PySem.Challenge.rw_endlesshall_k77_pairs_that_follow_looked
abbrev hk : PySem.W.Hook := hookS 6 fa fn ts vls xs
def ob (s : PySem.W.SharedT) : AlU × Bool := obsSG 6 fa fn ts vls xs (HandSHeadRun.getT s)
theorem ob_eq (s : PySem.W.SharedT) : ob s = hk.obs s.abs := obsSG_eq (HandSHeadRun.getT_eq s)
def names : List PySem.Str := names0 ++ names1
theorem run (w : World) : HandSHeadRun.RunEq Rw (PySem.W.view Rw.prog [51]) hk ob 6000 names w := PySem.W.byRow2 "special-get-raises" (P := fun w => HandSHeadRun.RunEq Rw (PySem.W.view Rw.prog [51]) hk ob 6000 names w) (fun w os => by kernel_rfl) (fun w os => by kernel_rfl) w
end HD
abbrev s__law_box : Stmt := top 38
abbrev N__law_box : List Str := ["_law_script", "_law_k", "_law_cell", "_law_mixed"]
theorem sc__law_box : FnScope N__law_box ["_law_script", "_law_k"] (defScope s__law_box) := ⟨rfl, rfl, rfl, by decide +kernel, rfl, by decide +kernel, by decide +kernel⟩

abbrev s__law_take : Stmt := top 39
abbrev N__law_take : List Str := ["_law_box_here", "_law_many", "_law_digit", "_law_mixed"]
theorem sc__law_take : FnScope N__law_take ["_law_box_here", "_law_many"] (defScope s__law_take) := ⟨rfl, rfl, rfl, by decide +kernel, rfl, by decide +kernel, by decide +kernel⟩

abbrev s__law_rooms : Stmt := top 40
abbrev N__law_rooms : List Str := ["_law_box_here", "_law_many", "_law_room"]
theorem sc__law_rooms : FnScope N__law_rooms ["_law_box_here", "_law_many"] (defScope s__law_rooms) := ⟨rfl, rfl, rfl, by decide +kernel, rfl, by decide +kernel, by decide +kernel⟩

abbrev s__law_again : Stmt := top 41
abbrev N__law_again : List Str := ["_law_box_here", "_law_letters", "_law_most_rooms", "_law_rooms_here", "_law_thin", "_law_bare", "_law_ways", "_law_room", "_law_letter", "_law_some", "_law_end"]
theorem sc__law_again : FnScope N__law_again ["_law_box_here", "_law_letters", "_law_most_rooms"] (defScope s__law_again) := ⟨rfl, rfl, rfl, by decide +kernel, rfl, by decide +kernel, by decide +kernel⟩

abbrev s_are_rising : Stmt := top 7
abbrev N_are_rising : List Str := ["some", "one", "other"]
theorem sc_are_rising : FnScope N_are_rising ["some"] (defScope s_are_rising) := ⟨rfl, rfl, rfl, by decide +kernel, rfl, by decide +kernel, by decide +kernel⟩

abbrev s_is_whole : Stmt := top 5
abbrev N_is_whole : List Str := ["thing"]
theorem sc_is_whole : FnScope N_is_whole ["thing"] (defScope s_is_whole) := ⟨rfl, rfl, rfl, by decide +kernel, rfl, by decide +kernel, by decide +kernel⟩

abbrev s_is_below : Stmt := top 6
abbrev N_is_below : List Str := ["thing", "many"]
theorem sc_is_below : FnScope N_is_below ["thing", "many"] (defScope s_is_below) := ⟨rfl, rfl, rfl, by decide +kernel, rfl, by decide +kernel, by decide +kernel⟩

abbrev s_are_rising_below : Stmt := top 8
abbrev N_are_rising_below : List Str := ["thing", "many", "one"]
theorem sc_are_rising_below : FnScope N_are_rising_below ["thing", "many"] (defScope s_are_rising_below) := ⟨rfl, rfl, rfl, by decide +kernel, rfl, by decide +kernel, by decide +kernel⟩

abbrev s_are_rooms : Stmt := top 13
abbrev N_are_rooms : List Str := ["rooms", "thing"]
theorem sc_are_rooms : FnScope N_are_rooms ["rooms", "thing"] (defScope s_are_rooms) := ⟨rfl, rfl, rfl, by decide +kernel, rfl, by decide +kernel, by decide +kernel⟩

abbrev s_are_pairs : Stmt := top 12
abbrev N_are_pairs : List Str := ["rooms", "thing", "pair", "part"]
theorem sc_are_pairs : FnScope N_are_pairs ["rooms", "thing"] (defScope s_are_pairs) := ⟨rfl, rfl, rfl, by decide +kernel, rfl, by decide +kernel, by decide +kernel⟩

abbrev s_are_ranks : Stmt := top 14
abbrev N_are_ranks : List Str := ["rooms", "thing", "one"]
theorem sc_are_ranks : FnScope N_are_ranks ["rooms", "thing"] (defScope s_are_ranks) := ⟨rfl, rfl, rfl, by decide +kernel, rfl, by decide +kernel, by decide +kernel⟩

abbrev s_are_ways : Stmt := top 11
abbrev N_are_ways : List Str := ["letters", "rooms", "thing", "way"]
theorem sc_are_ways : FnScope N_are_ways ["letters", "rooms", "thing"] (defScope s_are_ways) := ⟨rfl, rfl, rfl, by decide +kernel, rfl, by decide +kernel, by decide +kernel⟩

abbrev s_fault_of : Stmt := top 17
abbrev N_fault_of : List Str := ["letters", "rooms", "start", "ways", "kind", "by", "looked"]
theorem sc_fault_of : FnScope N_fault_of ["letters", "rooms", "start", "ways", "kind", "by"] (defScope s_fault_of) := ⟨rfl, rfl, rfl, by decide +kernel, rfl, by decide +kernel, by decide +kernel⟩

abbrev s_Hall___init__ : Stmt := inn 21 0
abbrev N_Hall___init__ : List Str := ["self", "letters", "rooms", "start", "ways", "kind", "by", "why", "room", "letter", "end"]
theorem sc_Hall___init__ : FnScope N_Hall___init__ ["self", "letters", "rooms", "start", "ways", "kind", "by"] (defScope s_Hall___init__) := ⟨rfl, rfl, rfl, by decide +kernel, rfl, by decide +kernel, by decide +kernel⟩

abbrev s__law_hall_of : Stmt := top 42
abbrev N__law_hall_of : List Str := ["_law_drawn", "_law_letters", "_law_rooms_here", "_law_first", "_law_ways", "_law_word", "_law_seen"]
theorem sc__law_hall_of : FnScope N__law_hall_of ["_law_drawn"] (defScope s__law_hall_of) := ⟨rfl, rfl, rfl, by decide +kernel, rfl, by decide +kernel, by decide +kernel⟩

abbrev s__law_ways_from : Stmt := top 43
abbrev N__law_ways_from : List Str := ["_law_drawn", "_law_room", "_law_way"]
theorem sc__law_ways_from : FnScope N__law_ways_from ["_law_drawn", "_law_room"] (defScope s__law_ways_from) := ⟨rfl, rfl, rfl, by decide +kernel, rfl, by decide +kernel, by decide +kernel⟩

abbrev s__law_ends : Stmt := top 44
abbrev N__law_ends : List Str := ["_law_drawn", "_law_room", "_law_letter", "_law_way"]
theorem sc__law_ends : FnScope N__law_ends ["_law_drawn", "_law_room", "_law_letter"] (defScope s__law_ends) := ⟨rfl, rfl, rfl, by decide +kernel, rfl, by decide +kernel, by decide +kernel⟩

abbrev s__law_direct : Stmt := top 45
abbrev N__law_direct : List Str := ["_law_drawn", "_law_left", "_law_one", "_law_many", "_law_kept", "_law_other", "_law_good", "_law_letter", "_law_end", "_law_some", "_law_its", "_law_pair"]
theorem sc__law_direct : FnScope N__law_direct ["_law_drawn"] (defScope s__law_direct) := ⟨rfl, rfl, rfl, by decide +kernel, rfl, by decide +kernel, by decide +kernel⟩

abbrev s__law_less : Stmt := top 48
abbrev N__law_less : List Str := ["_law_drawn", "_law_lot", "_law_left", "_law_many", "_law_kept", "_law_one", "_law_other", "_law_good", "_law_letter", "_law_end", "_law_some", "_law_its", "_law_pair"]
theorem sc__law_less : FnScope N__law_less ["_law_drawn", "_law_lot"] (defScope s__law_less) := ⟨rfl, rfl, rfl, by decide +kernel, rfl, by decide +kernel, by decide +kernel⟩

abbrev s__law_deep : Stmt := top 50
abbrev N__law_deep : List Str := ["_law_box_here", "_law_thing", "_law_form", "_law_turn"]
theorem sc__law_deep : FnScope N__law_deep ["_law_box_here", "_law_thing"] (defScope s__law_deep) := ⟨rfl, rfl, rfl, by decide +kernel, rfl, by decide +kernel, by decide +kernel⟩

abbrev s__law_bent : Stmt := top 49
abbrev N__law_bent : List Str := ["_law_box_here", "_law_lot", "_law_rooms_here", "_law_kind", "_law_at", "_law_pair", "_law_both", "_law_odd"]
theorem sc__law_bent : FnScope N__law_bent ["_law_box_here", "_law_lot", "_law_rooms_here"] (defScope s__law_bent) := ⟨rfl, rfl, rfl, by decide +kernel, rfl, by decide +kernel, by decide +kernel⟩

abbrev s_pairs_of_ranks : Stmt := top 23
abbrev N_pairs_of_ranks : List Str := ["ranks", "found", "rank", "never", "one", "room"]
theorem sc_pairs_of_ranks : FnScope N_pairs_of_ranks ["ranks"] (defScope s_pairs_of_ranks) := ⟨rfl, rfl, rfl, by decide +kernel, rfl, by decide +kernel, by decide +kernel⟩

abbrev s_pairs_of : Stmt := top 24
abbrev N_pairs_of : List Str := ["hall", "rooms", "room"]
theorem sc_pairs_of : FnScope N_pairs_of ["hall"] (defScope s_pairs_of) := ⟨rfl, rfl, rfl, by decide +kernel, rfl, by decide +kernel, by decide +kernel⟩

abbrev s_copied_rooms : Stmt := top 27
abbrev N_copied_rooms : List Str := ["hall", "pairs", "numbers", "at", "never", "often", "barred", "room"]
theorem sc_copied_rooms : FnScope N_copied_rooms ["hall", "pairs"] (defScope s_copied_rooms) := ⟨rfl, rfl, rfl, by decide +kernel, rfl, by decide +kernel, by decide +kernel⟩

abbrev s_copied_ways : Stmt := top 28
abbrev N_copied_ways : List Str := ["hall", "numbers", "many", "turns", "found", "at", "here", "room", "letter", "end", "there"]
theorem sc_copied_ways : FnScope N_copied_ways ["hall", "numbers", "many"] (defScope s_copied_ways) := ⟨rfl, rfl, rfl, by decide +kernel, rfl, by decide +kernel, by decide +kernel⟩

abbrev s_as_again : Stmt := top 29
abbrev N_as_again : List Str := ["hall", "pairs", "numbers", "spots", "marks", "ways", "at", "never", "often", "room", "spot"]
theorem sc_as_again : FnScope N_as_again ["hall"] (defScope s_as_again) := ⟨rfl, rfl, rfl, by decide +kernel, rfl, by decide +kernel, by decide +kernel⟩

abbrev s_seen_by : Stmt := top 33
abbrev N_seen_by : List Str := ["hall", "pair"]
theorem sc_seen_by : FnScope N_seen_by ["hall", "pair"] (defScope s_seen_by) := ⟨rfl, rfl, rfl, by decide +kernel, rfl, by decide +kernel, by decide +kernel⟩

abbrev s_Hall_ends : Stmt := inn 21 1
abbrev N_Hall_ends : List Str := ["self", "room", "letter"]
theorem sc_Hall_ends : FnScope N_Hall_ends ["self", "room", "letter"] (defScope s_Hall_ends) := ⟨rfl, rfl, rfl, by decide +kernel, rfl, by decide +kernel, by decide +kernel⟩

abbrev s_steps_from : Stmt := top 31
abbrev N_steps_from : List Str := ["hall", "room", "letter", "end"]
theorem sc_steps_from : FnScope N_steps_from ["hall", "room"] (defScope s_steps_from) := ⟨rfl, rfl, rfl, by decide +kernel, rfl, by decide +kernel, by decide +kernel⟩

abbrev s_answers : Stmt := top 32
abbrev N_answers : List Str := ["hall", "pair", "pairs", "one", "other", "letter", "end", "its"]
theorem sc_answers : FnScope N_answers ["hall", "pair", "pairs"] (defScope s_answers) := ⟨rfl, rfl, rfl, by decide +kernel, rfl, by decide +kernel, by decide +kernel⟩

abbrev s_is_pair : Stmt := top 35
abbrev N_is_pair : List Str := ["hall", "thing", "one"]
theorem sc_is_pair : FnScope N_is_pair ["hall", "thing"] (defScope s_is_pair) := ⟨rfl, rfl, rfl, by decide +kernel, rfl, by decide +kernel, by decide +kernel⟩

abbrev s_shows_direct : Stmt := top 36
abbrev N_shows_direct : List Str := ["hall", "thing", "again", "pairs", "pair", "one", "other"]
theorem sc_shows_direct : FnScope N_shows_direct ["hall", "thing"] (defScope s_shows_direct) := ⟨rfl, rfl, rfl, by decide +kernel, rfl, by decide +kernel, by decide +kernel⟩

abbrev s__law_is_pair : Stmt := top 46
abbrev N__law_is_pair : List Str := ["_law_thing", "_law_rooms_here", "_law_one"]
theorem sc__law_is_pair : FnScope N__law_is_pair ["_law_thing", "_law_rooms_here"] (defScope s__law_is_pair) := ⟨rfl, rfl, rfl, by decide +kernel, rfl, by decide +kernel, by decide +kernel⟩

abbrev s__law_shows : Stmt := top 47
abbrev N__law_shows : List Str := ["_law_drawn", "_law_thing", "_law_one", "_law_other", "_law_letter", "_law_end", "_law_pair", "_law_its"]
theorem sc__law_shows : FnScope N__law_shows ["_law_drawn", "_law_thing"] (defScope s__law_shows) := ⟨rfl, rfl, rfl, by decide +kernel, rfl, by decide +kernel, by decide +kernel⟩

abbrev s_law : Stmt := top 51
abbrev N_law : List Str := ["_law_script", "_law_k", "_law_box_here", "_law_drawn", "_law_hall_here", "_law_whole", "_law_alone", "_law_lots", "_law_some", "_law_turn", "_law_one", "_law_again_here", "_law_held", "_law_told", "_law_room", "_law_pair"]
theorem sc_law : FnScope N_law ["_law_script"] (defScope s_law) := ⟨rfl, rfl, rfl, by decide +kernel, rfl, by decide +kernel, by decide +kernel⟩

structure En (w : World) (K : PySem.W.Frag) (mg : Str → Option Value) where
  sysd : SysD K
  m_abs : mg "abs" = none
  m_all : mg "all" = none
  m_any : mg "any" = none
  m_bool : mg "bool" = none
  m_enumerate : mg "enumerate" = none
  m_int : mg "int" = none
  m_isinstance : mg "isinstance" = none
  m_len : mg "len" = none
  m_list : mg "list" = none
  m_max : mg "max" = none
  m_min : mg "min" = none
  m_range : mg "range" = none
  m_repr : mg "repr" = none
  m_sorted : mg "sorted" = none
  m_str : mg "str" = none
  m_tuple : mg "tuple" = none
  m_zip : mg "zip" = none
  fd__law_box : FuncData
  F__law_box : FunD K "_law_box" "_law_box" (defArgs s__law_box) (defBody s__law_box) (defScope s__law_box) [] [] (He.ga K "_law_box") fd__law_box
  g__law_box : mg "_law_box" = some (.ref (He.ga K "_law_box"))
  b__law_box : Binds K fd__law_box ["_law_script", "_law_k"] []
  fd__law_take : FuncData
  F__law_take : FunD K "_law_take" "_law_take" (defArgs s__law_take) (defBody s__law_take) (defScope s__law_take) [] [] (He.ga K "_law_take") fd__law_take
  g__law_take : mg "_law_take" = some (.ref (He.ga K "_law_take"))
  b__law_take : Binds K fd__law_take ["_law_box_here", "_law_many"] []
  fd__law_rooms : FuncData
  F__law_rooms : FunD K "_law_rooms" "_law_rooms" (defArgs s__law_rooms) (defBody s__law_rooms) (defScope s__law_rooms) [] [] (He.ga K "_law_rooms") fd__law_rooms
  g__law_rooms : mg "_law_rooms" = some (.ref (He.ga K "_law_rooms"))
  b__law_rooms : Binds K fd__law_rooms ["_law_box_here", "_law_many"] []
  fd__law_again : FuncData
  F__law_again : FunD K "_law_again" "_law_again" (defArgs s__law_again) (defBody s__law_again) (defScope s__law_again) [] [] (He.ga K "_law_again") fd__law_again
  g__law_again : mg "_law_again" = some (.ref (He.ga K "_law_again"))
  b__law_again : Binds K fd__law_again ["_law_box_here", "_law_letters", "_law_most_rooms"] []
  fd_are_rising : FuncData
  F_are_rising : FunD K "are_rising" "are_rising" (defArgs s_are_rising) (defBody s_are_rising) (defScope s_are_rising) [] [] (He.ga K "are_rising") fd_are_rising
  g_are_rising : mg "are_rising" = some (.ref (He.ga K "are_rising"))
  b_are_rising : Binds K fd_are_rising ["some"] []
  fd_is_whole : FuncData
  F_is_whole : FunD K "is_whole" "is_whole" (defArgs s_is_whole) (defBody s_is_whole) (defScope s_is_whole) [] [] (He.ga K "is_whole") fd_is_whole
  g_is_whole : mg "is_whole" = some (.ref (He.ga K "is_whole"))
  b_is_whole : Binds K fd_is_whole ["thing"] []
  fd_is_below : FuncData
  F_is_below : FunD K "is_below" "is_below" (defArgs s_is_below) (defBody s_is_below) (defScope s_is_below) [] [] (He.ga K "is_below") fd_is_below
  g_is_below : mg "is_below" = some (.ref (He.ga K "is_below"))
  b_is_below : Binds K fd_is_below ["thing", "many"] []
  fd_are_rising_below : FuncData
  F_are_rising_below : FunD K "are_rising_below" "are_rising_below" (defArgs s_are_rising_below) (defBody s_are_rising_below) (defScope s_are_rising_below) [] [] (He.ga K "are_rising_below") fd_are_rising_below
  g_are_rising_below : mg "are_rising_below" = some (.ref (He.ga K "are_rising_below"))
  b_are_rising_below : Binds K fd_are_rising_below ["thing", "many"] []
  fd_are_rooms : FuncData
  F_are_rooms : FunD K "are_rooms" "are_rooms" (defArgs s_are_rooms) (defBody s_are_rooms) (defScope s_are_rooms) [] [] (He.ga K "are_rooms") fd_are_rooms
  g_are_rooms : mg "are_rooms" = some (.ref (He.ga K "are_rooms"))
  b_are_rooms : Binds K fd_are_rooms ["rooms", "thing"] []
  fd_are_pairs : FuncData
  F_are_pairs : FunD K "are_pairs" "are_pairs" (defArgs s_are_pairs) (defBody s_are_pairs) (defScope s_are_pairs) [] [] (He.ga K "are_pairs") fd_are_pairs
  g_are_pairs : mg "are_pairs" = some (.ref (He.ga K "are_pairs"))
  b_are_pairs : Binds K fd_are_pairs ["rooms", "thing"] []
  fd_are_ranks : FuncData
  F_are_ranks : FunD K "are_ranks" "are_ranks" (defArgs s_are_ranks) (defBody s_are_ranks) (defScope s_are_ranks) [] [] (He.ga K "are_ranks") fd_are_ranks
  g_are_ranks : mg "are_ranks" = some (.ref (He.ga K "are_ranks"))
  b_are_ranks : Binds K fd_are_ranks ["rooms", "thing"] []
  fd_are_ways : FuncData
  F_are_ways : FunD K "are_ways" "are_ways" (defArgs s_are_ways) (defBody s_are_ways) (defScope s_are_ways) [] [] (He.ga K "are_ways") fd_are_ways
  g_are_ways : mg "are_ways" = some (.ref (He.ga K "are_ways"))
  b_are_ways : Binds K fd_are_ways ["letters", "rooms", "thing"] []
  fd_fault_of : FuncData
  F_fault_of : FunD K "fault_of" "fault_of" (defArgs s_fault_of) (defBody s_fault_of) (defScope s_fault_of) [] [] (He.ga K "fault_of") fd_fault_of
  g_fault_of : mg "fault_of" = some (.ref (He.ga K "fault_of"))
  b_fault_of : Binds K fd_fault_of ["letters", "rooms", "start", "ways", "kind", "by"] []
  fd_Hall___init__ : FuncData
  F_Hall___init__ : FunD K "__init__" "Hall.__init__" (defArgs s_Hall___init__) (defBody s_Hall___init__) (defScope s_Hall___init__) [] [] (He.ma K (He.ga K "Hall") "__init__") fd_Hall___init__
  b_Hall___init__ : Binds K fd_Hall___init__ ["self", "letters", "rooms", "start", "ways", "kind", "by"] []
  fd__law_hall_of : FuncData
  F__law_hall_of : FunD K "_law_hall_of" "_law_hall_of" (defArgs s__law_hall_of) (defBody s__law_hall_of) (defScope s__law_hall_of) [] [] (He.ga K "_law_hall_of") fd__law_hall_of
  g__law_hall_of : mg "_law_hall_of" = some (.ref (He.ga K "_law_hall_of"))
  b__law_hall_of : Binds K fd__law_hall_of ["_law_drawn"] []
  fd__law_ways_from : FuncData
  F__law_ways_from : FunD K "_law_ways_from" "_law_ways_from" (defArgs s__law_ways_from) (defBody s__law_ways_from) (defScope s__law_ways_from) [] [] (He.ga K "_law_ways_from") fd__law_ways_from
  g__law_ways_from : mg "_law_ways_from" = some (.ref (He.ga K "_law_ways_from"))
  b__law_ways_from : Binds K fd__law_ways_from ["_law_drawn", "_law_room"] []
  fd__law_ends : FuncData
  F__law_ends : FunD K "_law_ends" "_law_ends" (defArgs s__law_ends) (defBody s__law_ends) (defScope s__law_ends) [] [] (He.ga K "_law_ends") fd__law_ends
  g__law_ends : mg "_law_ends" = some (.ref (He.ga K "_law_ends"))
  b__law_ends : Binds K fd__law_ends ["_law_drawn", "_law_room", "_law_letter"] []
  fd__law_direct : FuncData
  F__law_direct : FunD K "_law_direct" "_law_direct" (defArgs s__law_direct) (defBody s__law_direct) (defScope s__law_direct) [] [] (He.ga K "_law_direct") fd__law_direct
  g__law_direct : mg "_law_direct" = some (.ref (He.ga K "_law_direct"))
  b__law_direct : Binds K fd__law_direct ["_law_drawn"] []
  fd__law_less : FuncData
  F__law_less : FunD K "_law_less" "_law_less" (defArgs s__law_less) (defBody s__law_less) (defScope s__law_less) [] [] (He.ga K "_law_less") fd__law_less
  g__law_less : mg "_law_less" = some (.ref (He.ga K "_law_less"))
  b__law_less : Binds K fd__law_less ["_law_drawn", "_law_lot"] []
  fd__law_deep : FuncData
  F__law_deep : FunD K "_law_deep" "_law_deep" (defArgs s__law_deep) (defBody s__law_deep) (defScope s__law_deep) [] [] (He.ga K "_law_deep") fd__law_deep
  g__law_deep : mg "_law_deep" = some (.ref (He.ga K "_law_deep"))
  b__law_deep : Binds K fd__law_deep ["_law_box_here", "_law_thing"] []
  fd__law_bent : FuncData
  F__law_bent : FunD K "_law_bent" "_law_bent" (defArgs s__law_bent) (defBody s__law_bent) (defScope s__law_bent) [] [] (He.ga K "_law_bent") fd__law_bent
  g__law_bent : mg "_law_bent" = some (.ref (He.ga K "_law_bent"))
  b__law_bent : Binds K fd__law_bent ["_law_box_here", "_law_lot", "_law_rooms_here"] []
  fd_pairs_of_ranks : FuncData
  F_pairs_of_ranks : FunD K "pairs_of_ranks" "pairs_of_ranks" (defArgs s_pairs_of_ranks) (defBody s_pairs_of_ranks) (defScope s_pairs_of_ranks) [] [] (He.ga K "pairs_of_ranks") fd_pairs_of_ranks
  g_pairs_of_ranks : mg "pairs_of_ranks" = some (.ref (He.ga K "pairs_of_ranks"))
  b_pairs_of_ranks : Binds K fd_pairs_of_ranks ["ranks"] []
  fd_pairs_of : FuncData
  F_pairs_of : FunD K "pairs_of" "pairs_of" (defArgs s_pairs_of) (defBody s_pairs_of) (defScope s_pairs_of) [] [] (He.ga K "pairs_of") fd_pairs_of
  g_pairs_of : mg "pairs_of" = some (.ref (He.ga K "pairs_of"))
  b_pairs_of : Binds K fd_pairs_of ["hall"] []
  fd_copied_rooms : FuncData
  F_copied_rooms : FunD K "copied_rooms" "copied_rooms" (defArgs s_copied_rooms) (defBody s_copied_rooms) (defScope s_copied_rooms) [] [] (He.ga K "copied_rooms") fd_copied_rooms
  g_copied_rooms : mg "copied_rooms" = some (.ref (He.ga K "copied_rooms"))
  b_copied_rooms : Binds K fd_copied_rooms ["hall", "pairs"] []
  fd_copied_ways : FuncData
  F_copied_ways : FunD K "copied_ways" "copied_ways" (defArgs s_copied_ways) (defBody s_copied_ways) (defScope s_copied_ways) [] [] (He.ga K "copied_ways") fd_copied_ways
  g_copied_ways : mg "copied_ways" = some (.ref (He.ga K "copied_ways"))
  b_copied_ways : Binds K fd_copied_ways ["hall", "numbers", "many"] []
  fd_as_again : FuncData
  F_as_again : FunD K "as_again" "as_again" (defArgs s_as_again) (defBody s_as_again) (defScope s_as_again) [] [] (He.ga K "as_again") fd_as_again
  g_as_again : mg "as_again" = some (.ref (He.ga K "as_again"))
  b_as_again : Binds K fd_as_again ["hall"] []
  fd_seen_by : FuncData
  F_seen_by : FunD K "seen_by" "seen_by" (defArgs s_seen_by) (defBody s_seen_by) (defScope s_seen_by) [] [] (He.ga K "seen_by") fd_seen_by
  g_seen_by : mg "seen_by" = some (.ref (He.ga K "seen_by"))
  b_seen_by : Binds K fd_seen_by ["hall", "pair"] []
  fd_Hall_ends : FuncData
  F_Hall_ends : FunD K "ends" "Hall.ends" (defArgs s_Hall_ends) (defBody s_Hall_ends) (defScope s_Hall_ends) [] [] (He.ma K (He.ga K "Hall") "ends") fd_Hall_ends
  me_Hall_ends : Meth K (He.ga K "Hall") "ends" (He.ma K (He.ga K "Hall") "ends")
  b_Hall_ends : Binds K fd_Hall_ends ["self", "room", "letter"] []
  fd_steps_from : FuncData
  F_steps_from : FunD K "steps_from" "steps_from" (defArgs s_steps_from) (defBody s_steps_from) (defScope s_steps_from) [] [] (He.ga K "steps_from") fd_steps_from
  g_steps_from : mg "steps_from" = some (.ref (He.ga K "steps_from"))
  b_steps_from : Binds K fd_steps_from ["hall", "room"] []
  fd_answers : FuncData
  F_answers : FunD K "answers" "answers" (defArgs s_answers) (defBody s_answers) (defScope s_answers) [] [] (He.ga K "answers") fd_answers
  g_answers : mg "answers" = some (.ref (He.ga K "answers"))
  b_answers : Binds K fd_answers ["hall", "pair", "pairs"] []
  fd_is_pair : FuncData
  F_is_pair : FunD K "is_pair" "is_pair" (defArgs s_is_pair) (defBody s_is_pair) (defScope s_is_pair) [] [] (He.ga K "is_pair") fd_is_pair
  g_is_pair : mg "is_pair" = some (.ref (He.ga K "is_pair"))
  b_is_pair : Binds K fd_is_pair ["hall", "thing"] []
  fd_shows_direct : FuncData
  F_shows_direct : FunD K "shows_direct" "shows_direct" (defArgs s_shows_direct) (defBody s_shows_direct) (defScope s_shows_direct) [] [] (He.ga K "shows_direct") fd_shows_direct
  g_shows_direct : mg "shows_direct" = some (.ref (He.ga K "shows_direct"))
  b_shows_direct : Binds K fd_shows_direct ["hall", "thing"] []
  fd__law_is_pair : FuncData
  F__law_is_pair : FunD K "_law_is_pair" "_law_is_pair" (defArgs s__law_is_pair) (defBody s__law_is_pair) (defScope s__law_is_pair) [] [] (He.ga K "_law_is_pair") fd__law_is_pair
  g__law_is_pair : mg "_law_is_pair" = some (.ref (He.ga K "_law_is_pair"))
  b__law_is_pair : Binds K fd__law_is_pair ["_law_thing", "_law_rooms_here"] []
  fd__law_shows : FuncData
  F__law_shows : FunD K "_law_shows" "_law_shows" (defArgs s__law_shows) (defBody s__law_shows) (defScope s__law_shows) [] [] (He.ga K "_law_shows") fd__law_shows
  g__law_shows : mg "_law_shows" = some (.ref (He.ga K "_law_shows"))
  b__law_shows : Binds K fd__law_shows ["_law_drawn", "_law_thing"] []
  fd_law : FuncData
  F_law : FunD K "law" "law" (defArgs s_law) (defBody s_law) (defScope s_law) [] [] (He.ga K "law") fd_law
  g_law : mg "law" = some (.ref (He.ga K "law"))
  b_law : Binds K fd_law ["_law_script"] []
  cl_Hall : Cls K (He.ga K "Hall")
  mk_Hall : Mk K (He.ga K "Hall") (He.ma K (He.ga K "Hall") "__init__")
  g_Hall : mg "Hall" = some (.ref (He.ga K "Hall"))
  hf_letters : ∀ c ∈ (["Hall"] : List Str), Cls K (He.ga K c) ∧ NoAttr K (He.ga K c) "letters"
  hf_rooms : ∀ c ∈ (["Hall"] : List Str), Cls K (He.ga K c) ∧ NoAttr K (He.ga K c) "rooms"
  hf_start : ∀ c ∈ (["Hall"] : List Str), Cls K (He.ga K c) ∧ NoAttr K (He.ga K c) "start"
  hf_ways : ∀ c ∈ (["Hall"] : List Str), Cls K (He.ga K c) ∧ NoAttr K (He.ga K c) "ways"
  hf_kind : ∀ c ∈ (["Hall"] : List Str), Cls K (He.ga K c) ∧ NoAttr K (He.ga K c) "kind"
  hf_by : ∀ c ∈ (["Hall"] : List Str), Cls K (He.ga K c) ∧ NoAttr K (He.ga K c) "by"
  hf_goals : ∀ c ∈ (["Hall"] : List Str), Cls K (He.ga K c) ∧ NoAttr K (He.ga K c) "goals"
  g_KINDS : mg "KINDS" = some (.ref (He.ga K "KINDS"))
  T_KINDS : TabF K (He.ga K) w (He.ga K "KINDS") tab_KINDS
  t_MOST_LETTERS : Tok
  k_MOST_LETTERS : mg "MOST_LETTERS" = some (.int 4 t_MOST_LETTERS)
  t_AGAIN : Tok
  k_AGAIN : mg "AGAIN" = some (.str "again" t_AGAIN)

noncomputable def m__law_box (script_1 k_2 : U) : M U := fnM (.bind (iteW (testW (op2 ltU (.ret k_2) (op1 lenU (.ret script_1)))) (op2 ixU (.ret script_1) (.ret k_2)) (.ret (.int 0))) fun cell_3 => (.bind (op2 modU (op2 mulU (op2 addU (op2 addU (op2 modU (.ret cell_3) (.ret (.int 2305843009213693951))) (op2 mulU (op2 mulU (.ret (.int 7919)) (.ret k_2)) (.ret k_2))) (.ret (.int 3))) (.ret (.int 48271))) (.ret (.int 2305843009213693921))) fun mixed_4 => (rtO (.bind (lstW (consA (.bind (iteW (testW (op2 geU (op1 absU (.ret cell_3)) (op2 powU (.ret (.int 10)) (.ret (.int 18))))) (op1 absU (.ret cell_3)) (.ret (.int 0))) fun u => .o (leafO u)) (consA (.bind (.ret mixed_4) fun u => .o (leafO u)) (consA (.bind (.ret (.int 0)) fun u => .o (leafO u)) nilA)))) fun u => .bind (.o (lstO u)) allocM))))
theorem w__law_box {P : Program} {w : World} {K : PySem.W.Frag} {mg : Str → Option Value} {bs : Heap} (N : En w K mg) : FnOk P w K mg bs CX0 1 (He.ga K "_law_box") N.fd__law_box ["_law_script", "_law_k"] (spM ⟨K, He.ga K⟩ (L2' m__law_box)) :=
  fn_okF N.F__law_box sc__law_box (ar2 fun _ _ => rfl) fun cv A o s H E hr => ⟨_, PSs.nox (pss_cons (ps_set (i := 2) sc__law_box.nd rfl (.inl rfl) (pe_ifExp (pt_cmpR (op_ltK K hr.units) (pv 1) (pe_callB (call_lenK K) (by rfl) N.m_len PySem.boot_len (pa_cons (pv 0) pa_nil)) (nomark _)) (pe_ix (ix_seqK K) (pv 0) (pv 1) (fun _ _ => rfl)) pe_int))
 (pss_cons (ps_set (i := 3) sc__law_box.nd rfl (.inl rfl) (pe_op op_modN (pe_op (op_mulK K) (pe_op (op_addK K) (pe_op (op_addK K) (pe_op op_modN (pv 2) pe_int) (pe_op (op_mulK K) (pe_op (op_mulK K) pe_int (pv 1)) (pv 1))) pe_int) pe_int) pe_int))
 (pss_one (ps_ret (pe_lst (pa_cons (pe_ifExp (pt_cmpR op_ge (pe_callB call_abs (by rfl) N.m_abs (by decide +kernel) (pa_cons (pv 2) pa_nil)) (pe_op op_pow pe_int pe_int) (nomark _)) (pe_callB call_abs (by rfl) N.m_abs (by decide +kernel) (pa_cons (pv 2) pa_nil)) pe_int) (pa_cons (pv 3) (pa_cons pe_int pa_nil)))))))),
   fun B H0 as0 => ar2 fun script_1 k_2 => ⟨_, rfl,
 (blk_set (i := 2) (ev_if (et_test (EvW.r (ev_op ok_lt (EvW.r (ev_var (i := 1) rfl)) (EvW.r (ev_cb1 ok_len (EvW.r (ev_var (i := 0) rfl))))))) (ev_op ok_ix (EvW.r (ev_var (i := 0) rfl)) (EvW.r (ev_var (i := 1) rfl))) ev_int) fun cell_3 =>
 (blk_set (i := 3) (ev_op ok_mod (EvW.r (ev_op ok_mul (EvW.r (ev_op ok_add (EvW.r (ev_op ok_add (EvW.r (ev_op ok_mod (EvW.r (ev_var (i := 2) rfl)) (EvW.r ev_int))) (EvW.r (ev_op ok_mul (EvW.r (ev_op ok_mul (EvW.r ev_int) (EvW.r (ev_var (i := 1) rfl)))) (EvW.r (ev_var (i := 1) rfl)))))) (EvW.r ev_int))) (EvW.r ev_int))) (EvW.r ev_int)) fun mixed_4 =>
 (blk_retC (enf_lst (eanf_cons (enf_leaf (ev_if (et_test (EvW.r (ev_op ok_ge (EvW.r (ev_cb1 (ok_abs fun i H Q q => ⟨i, rfl, q⟩) (EvW.r (ev_var (i := 2) rfl)))) (EvW.r (ev_op ok_pow (EvW.r ev_int) (EvW.r ev_int)))))) (ev_cb1 (ok_abs fun i H Q q => ⟨i, rfl, q⟩) (EvW.r (ev_var (i := 2) rfl))) ev_int)) (eanf_cons (enf_leaf (ev_var (i := 3) rfl)) (eanf_cons (enf_leaf ev_int) eanf_nil)))))))⟩⟩

noncomputable def m__law_take (box_here_1 many_2 : U) : M U := fnM (seqO (S := Unit) (iteW (testW (op2 gtU (.bind (.bind (.bind (.ret box_here_1) locM) fun c => .bind (.ret (.int 0)) fun n => .o (ixC c n)) fun c => .o (valC c)) (.ret (.int 0)))) (.bind (op2 modU (.bind (.bind (.bind (.ret box_here_1) locM) fun c => .bind (.ret (.int 0)) fun n => .o (ixC c n)) fun c => .o (valC c)) (.ret many_2)) fun digit_4 => (.bind (op2 fdivU (.bind (.bind (.bind (.ret box_here_1) locM) fun c => .bind (.ret (.int 0)) fun n => .o (ixC c n)) fun c => .o (valC c)) (.ret many_2)) fun x => .bind (.bind (.ret box_here_1) locM) fun c => .bind (.ret (.int 0)) fun n => .bind (.o (setItC c n x)) fun d => .bind (putC d.1 d.2.1) fun _ => (rtO (.ret digit_4)))) (nxO ())) fun s_3 => (.bind (op2 addU (.bind (.bind (.bind (.ret box_here_1) locM) fun c => .bind (.ret (.int 2)) fun n => .o (ixC c n)) fun c => .o (valC c)) (.ret (.int 1))) fun x => .bind (.bind (.ret box_here_1) locM) fun c => .bind (.ret (.int 2)) fun n => .bind (.o (setItC c n x)) fun d => .bind (putC d.1 d.2.1) fun _ => (.bind (op2 modU (op2 mulU (op2 addU (op2 addU (.bind (.bind (.bind (.ret box_here_1) locM) fun c => .bind (.ret (.int 1)) fun n => .o (ixC c n)) fun c => .o (valC c)) (op2 mulU (op2 mulU (.ret (.int 65537)) (.bind (.bind (.bind (.ret box_here_1) locM) fun c => .bind (.ret (.int 2)) fun n => .o (ixC c n)) fun c => .o (valC c))) (.bind (.bind (.bind (.ret box_here_1) locM) fun c => .bind (.ret (.int 2)) fun n => .o (ixC c n)) fun c => .o (valC c)))) (.ret (.int 11))) (.ret (.int 48271))) (.ret (.int 2305843009213693921))) fun mixed_5 => (.bind (op2 modU (op2 mulU (.ret mixed_5) (op2 addU (op2 modU (.ret mixed_5) (.ret (.int 1000003))) (op2 mulU (.ret (.int 99991)) (.bind (.bind (.bind (.ret box_here_1) locM) fun c => .bind (.ret (.int 2)) fun n => .o (ixC c n)) fun c => .o (valC c))))) (.ret (.int 2305843009213693907))) fun mixed_6 => (rtO (op2 modU (op2 addU (op2 fdivU (.ret mixed_6) (.ret (.int 97))) (op2 fdivU (.ret mixed_6) (.ret (.int 1000033)))) (.ret many_2)))))))
theorem w__law_take {P : Program} {w : World} {K : PySem.W.Frag} {mg : Str → Option Value} {bs : Heap} (N : En w K mg) : FnOk P w K mg bs CX0 1 (He.ga K "_law_take") N.fd__law_take ["_law_box_here", "_law_many"] (spM ⟨K, He.ga K⟩ (L2' m__law_take)) :=
  fn_okF N.F__law_take sc__law_take (ar2 fun _ _ => rfl) fun cv A o s H E hr => ⟨_, PSs.nox (pss_cons (ps_if (pt_cmpR op_gt (pe_ix (ix_seqK K) (pv 0) pe_int (fun _ _ => rfl)) pe_int (nomark _))
 (pss_cons (ps_set (i := 2) sc__law_take.nd rfl (.inl rfl) (pe_op op_modN (pe_ix (ix_seqK K) (pv 0) pe_int (fun _ _ => rfl)) (pv 1)))
 (pss_cons (ps_asg (pe_op op_fdivN (pe_ix (ix_seqK K) (pv 0) pe_int (fun _ _ => rfl)) (pv 1)) (pg_sub (pv 0) pe_int set_list))
 (pss_one (ps_ret (pv 2)))))
 pss_nil)
 (pss_cons (ps_asg (pe_op (op_addK K) (pe_ix (ix_seqK K) (pv 0) pe_int (fun _ _ => rfl)) pe_int) (pg_sub (pv 0) pe_int set_list))
 (pss_cons (ps_set (i := 3) sc__law_take.nd rfl (.inl rfl) (pe_op op_modN (pe_op (op_mulK K) (pe_op (op_addK K) (pe_op (op_addK K) (pe_ix (ix_seqK K) (pv 0) pe_int (fun _ _ => rfl)) (pe_op (op_mulK K) (pe_op (op_mulK K) pe_int (pe_ix (ix_seqK K) (pv 0) pe_int (fun _ _ => rfl))) (pe_ix (ix_seqK K) (pv 0) pe_int (fun _ _ => rfl)))) pe_int) pe_int) pe_int))
 (pss_cons (ps_set (i := 3) sc__law_take.nd rfl (.inl rfl) (pe_op op_modN (pe_op (op_mulK K) (pv 3) (pe_op (op_addK K) (pe_op op_modN (pv 3) pe_int) (pe_op (op_mulK K) pe_int (pe_ix (ix_seqK K) (pv 0) pe_int (fun _ _ => rfl))))) pe_int))
 (pss_one (ps_ret (pe_op op_modN (pe_op (op_addK K) (pe_op op_fdivN (pv 3) pe_int) (pe_op op_fdivN (pv 3) pe_int)) (pv 1)))))))),
   fun B H0 as0 => ar2 fun box_here_1 many_2 => ⟨_, rfl,
 (blk_seq (blk_ifL (S := Unit) (fun s_3 => [some (.im box_here_1), some (.im many_2), none, none]) (et_test (EvW.r (ev_op ok_gt (EvW.r (ev_cell (r := false) (ec_ix (ec_loc (ev_var (i := 0) rfl)) eq_int))) (EvW.r ev_int))))
 (blk_set (i := 2) (ev_op ok_mod (EvW.r (ev_cell (r := false) (ec_ix (ec_loc (ev_var (i := 0) rfl)) eq_int))) (EvW.r (ev_var (i := 1) rfl))) fun digit_4 =>
 (blk_setC (ev_op ok_fdiv (EvW.r (ev_cell (r := false) (ec_ix (ec_loc (ev_var (i := 0) rfl)) eq_int))) (EvW.r (ev_var (i := 1) rfl))) (ec_loc (ev_var (i := 0) rfl)) eq_int
 (blk_ret (EvW.f (ev_var (i := 2) rfl)))))
 (blk_fin [2] (by rfl))) fun s_3 =>
 (blk_setC (ev_op ok_add (EvW.r (ev_cell (r := false) (ec_ix (ec_loc (ev_var (i := 0) rfl)) eq_int))) (EvW.r ev_int)) (ec_loc (ev_var (i := 0) rfl)) eq_int
 (blk_set (i := 3) (ev_op ok_mod (EvW.r (ev_op ok_mul (EvW.r (ev_op ok_add (EvW.r (ev_op ok_add (EvW.r (ev_cell (r := false) (ec_ix (ec_loc (ev_var (i := 0) rfl)) eq_int))) (EvW.r (ev_op ok_mul (EvW.r (ev_op ok_mul (EvW.r ev_int) (EvW.r (ev_cell (r := false) (ec_ix (ec_loc (ev_var (i := 0) rfl)) eq_int))))) (EvW.r (ev_cell (r := false) (ec_ix (ec_loc (ev_var (i := 0) rfl)) eq_int))))))) (EvW.r ev_int))) (EvW.r ev_int))) (EvW.r ev_int)) fun mixed_5 =>
 (blk_set (i := 3) (ev_op ok_mod (EvW.r (ev_op ok_mul (EvW.r (ev_var (i := 3) rfl)) (EvW.r (ev_op ok_add (EvW.r (ev_op ok_mod (EvW.r (ev_var (i := 3) rfl)) (EvW.r ev_int))) (EvW.r (ev_op ok_mul (EvW.r ev_int) (EvW.r (ev_cell (r := false) (ec_ix (ec_loc (ev_var (i := 0) rfl)) eq_int))))))))) (EvW.r ev_int)) fun mixed_6 =>
 (blk_ret (EvW.f (ev_op ok_mod (EvW.r (ev_op ok_add (EvW.r (ev_op ok_fdiv (EvW.r (ev_var (i := 3) rfl)) (EvW.r ev_int))) (EvW.r (ev_op ok_fdiv (EvW.r (ev_var (i := 3) rfl)) (EvW.r ev_int))))) (EvW.r (ev_var (i := 1) rfl)))))))))⟩⟩

noncomputable def m__law_rooms (box_here_1 many_2 : U) : M U := fnM (rtO (op1 tupleU (lcW (rng1W (.ret many_2)) (fun room_3 => (testW (op2 eqU (callM (L2' m__law_take) (consA (.ret box_here_1) (consA (.ret (.int 2)) nilA))) (.ret (.int 0))))) fun room_3 => (.ret room_3))))
theorem w__law_rooms {P : Program} {w : World} {K : PySem.W.Frag} {mg : Str → Option Value} {bs : Heap} (N : En w K mg) : FnOk P w K mg bs CX0 2 (He.ga K "_law_rooms") N.fd__law_rooms ["_law_box_here", "_law_many"] (spM ⟨K, He.ga K⟩ (L2' m__law_rooms)) :=
  fn_okF N.F__law_rooms sc__law_rooms (ar2 fun _ _ => rfl) fun cv A o s H E hr => ⟨_, PSs.nox (pss_one (ps_ret (pe_callTy (call_tupleK K) (by rfl) N.m_tuple (by decide +kernel) (pa_cons (pe_lc (own := [("_law_room", 2)]) (by rfl) sc__law_rooms.nd (pi_range1 (by rfl) N.m_range (pa_cons (pv 1) pa_nil)) (blkOk_by (own := [("_law_room", 2)]) (N := N__law_rooms) (sc := defScope s__law_rooms) (by decide +kernel)) (fun _ _ _ _ _ => (pg_name (i := 2) sc__law_rooms.nd rfl (.inl rfl))) (fun _ _ _ _ _ => (pts_one (pt_cmpR (op_eqK K hr.units) (pe_call (w__law_take N) (hr.mono (by decide)) (by rfl) N.g__law_take N.F__law_take.kp N.b__law_take .nil pass0 (pa_cons (pv 0) (pa_cons pe_int pa_nil))) pe_int (nomark _)))) (fun _ _ _ _ _ => (pv 2))) pa_nil)))),
   fun B H0 as0 => ar2 fun box_here_1 many_2 => ⟨_, rfl,
 (blk_ret (EvW.f (ev_cb1 ok_tuple (EvW.r (EvN.ew (en_lc (by rfl) (src_range1 (EvW.r (ev_var (i := 1) rfl))) fun room_3 st r q => ⟨_, tg_name (by decide), (et_test (EvW.r (ev_op ok_eq (EvW.r (ev_call (ea_cons (ev_var (i := 0) rfl) (ea_cons ev_int ea_nil)))) (EvW.r ev_int)))), (ev_var (i := 2) rfl)⟩))))))⟩⟩

noncomputable def m__law_again (box_here_1 letters_2 most_rooms_3 : U) : M U := fnM (.bind (op2 addU (.ret (.int 1)) (callM (L2' m__law_take) (consA (.ret box_here_1) (consA (.ret most_rooms_3) nilA)))) fun rooms_here_4 => (.bind (op2 addU (.ret (.int 1)) (callM (L2' m__law_take) (consA (.ret box_here_1) (consA (.ret (.int 3)) nilA)))) fun thin_5 => (.bind (callM (L2' m__law_take) (consA (.ret box_here_1) (consA (.ret (.int 4)) nilA))) fun bare_6 => (.bind (lstW nilA) fun ways_7 => (seqO (S := U) (.bind (rng1W (.ret rooms_here_4)) fun us => forO (fun room_9 s_8 => (seqO (S := U) (.bind (rng1W (.ret letters_2)) fun us => forO (fun letter_11 s_10 => (.bind (lcW (rng1W (.ret rooms_here_4)) (fun end_15 => (testW (op2 eqU (callM (L2' m__law_take) (consA (.ret box_here_1) (consA (op2 addU (.ret thin_5) (.ret (.int 1))) nilA))) (.ret (.int 0))))) fun end_15 => (.ret end_15)) fun some_14 => (seqO (S := U) (iteW (andT (testW (op2 eqU (.ret some_14) (lstW nilA))) (testW (op2 gtU (.ret bare_6) (.ret (.int 0))))) (.bind (lstW (consA (callM (L2' m__law_take) (consA (.ret box_here_1) (consA (.ret rooms_here_4) nilA))) nilA)) fun some_18 => (nxO some_18)) (nxO some_14)) fun s_17 => (.bind (op2 addU (.ret s_10) (lcW (itW (.ret s_17)) (fun end_22 => (.ret true)) fun end_22 => (tupW (consA (.ret room_9) (consA (.ret letter_11) (consA (.ret end_22) nilA)))))) fun ways_21 => (nxO ways_21))))) us s_8) fun s_10 => (nxO s_10))) us ways_7) fun s_8 => (rtO (tupW (consA (.ret letters_2) (consA (.ret rooms_here_4) (consA (callM (L2' m__law_take) (consA (.ret box_here_1) (consA (.ret rooms_here_4) nilA))) (consA (op1 tupleU (.ret s_8)) (consA (.ret (.str "again")) (consA (callM (L2' m__law_rooms) (consA (.ret box_here_1) (consA (.ret rooms_here_4) nilA))) nilA)))))))))))))
theorem w__law_again {P : Program} {w : World} {K : PySem.W.Frag} {mg : Str → Option Value} {bs : Heap} (N : En w K mg) : FnOk P w K mg bs CX0 3 (He.ga K "_law_again") N.fd__law_again ["_law_box_here", "_law_letters", "_law_most_rooms"] (spM ⟨K, He.ga K⟩ (L3 m__law_again)) :=
  fn_okF N.F__law_again sc__law_again (ar3 fun _ _ _ => rfl) fun cv A o s H E hr => ⟨_, PSs.nox (pss_cons (ps_asg (pe_tup (pa_cons (pe_op (op_addK K) pe_int (pe_call (w__law_take N) (hr.mono (by decide)) (by rfl) N.g__law_take N.F__law_take.kp N.b__law_take .nil pass0 (pa_cons (pv 0) (pa_cons (pv 2) pa_nil)))) (pa_cons (pe_op (op_addK K) pe_int (pe_call (w__law_take N) (hr.mono (by decide)) (by rfl) N.g__law_take N.F__law_take.kp N.b__law_take .nil pass0 (pa_cons (pv 0) (pa_cons pe_int pa_nil)))) (pa_cons (pe_call (w__law_take N) (hr.mono (by decide)) (by rfl) N.g__law_take N.F__law_take.kp N.b__law_take .nil pass0 (pa_cons (pv 0) (pa_cons pe_int pa_nil))) pa_nil)))) (pg_tup rfl (pgs_cons (pg_name (i := 3) sc__law_again.nd rfl (.inl rfl)) (pgs_cons (pg_name (i := 4) sc__law_again.nd rfl (.inr rfl)) (pgs_cons (pg_name (i := 5) sc__law_again.nd rfl (.inl rfl)) pgs_nil)))))
 (pss_cons (ps_set (i := 6) sc__law_again.nd rfl (.inl rfl) (pe_lst pa_nil))
 (pss_cons (ps_for PassesOwn.never rfl (pi_range1 (by rfl) N.m_range (pa_cons (pv 3) pa_nil)) (pg_name (i := 7) sc__law_again.nd rfl (.inr rfl))
 (pss_one (ps_for PassesOwn.never rfl (pi_range1 (by rfl) N.m_range (pa_cons (pv 1) pa_nil)) (pg_name (i := 8) sc__law_again.nd rfl (.inr rfl))
 (pss_cons (ps_setLc (i := 9) (own := [("_law_end", 10)]) (by rfl) sc__law_again.nd rfl rfl (sw_true rfl rfl rfl (by decide +kernel)) (pi_range1 (by rfl) N.m_range (pa_cons (pv 3) pa_nil)) (blkOk_by (own := [("_law_end", 10)]) (N := N__law_again) (sc := defScope s__law_again) (by decide +kernel)) (fun _ _ _ _ _ => (pg_name (i := 10) sc__law_again.nd rfl (.inl rfl))) (fun _ _ _ _ _ => (pts_one (pt_cmpR (op_eqK K hr.units) (pe_call (w__law_take N) (hr.mono (by decide)) (by rfl) N.g__law_take N.F__law_take.kp N.b__law_take .nil pass0 (pa_cons (pv 0) (pa_cons (pe_op (op_addK K) (pv 4) pe_int) pa_nil))) pe_int (nomark _)))) (fun _ _ _ _ _ => (pv 10)))
 (pss_cons (ps_if (PW.pt (pw_and (pt_cmpR (op_eqK K hr.units) (pv 9) (pe_lst pa_nil) (nomark _)) (pw_and1 (pt_cmpR op_gt (pv 5) pe_int (nomark _)))))
 (pss_one (ps_set (i := 9) sc__law_again.nd rfl (.inl rfl) (pe_lst (pa_cons (pe_call (w__law_take N) (hr.mono (by decide)) (by rfl) N.g__law_take N.F__law_take.kp N.b__law_take .nil pass0 (pa_cons (pv 0) (pa_cons (pv 3) pa_nil))) pa_nil))))
 pss_nil)
 (pss_one (ps_set (i := 6) sc__law_again.nd rfl (.inl rfl) (pe_op (op_addK K) (pv 6) (pe_lc (own := [("_law_end", 10)]) (by rfl) sc__law_again.nd (pi_seqK K (pv 9)) (blkOk_by (own := [("_law_end", 10)]) (N := N__law_again) (sc := defScope s__law_again) (by decide +kernel)) (fun _ _ _ _ _ => (pg_name (i := 10) sc__law_again.nd rfl (.inl rfl))) (fun _ _ _ _ _ => pts_nil) (fun _ _ _ _ _ => (pe_tup (pa_cons (pv 7) (pa_cons (pv 8) (pa_cons (pv 10) pa_nil))))))))))))))
 (pss_one (ps_ret (pe_tup (pa_cons (pv 1) (pa_cons (pv 3) (pa_cons (pe_call (w__law_take N) (hr.mono (by decide)) (by rfl) N.g__law_take N.F__law_take.kp N.b__law_take .nil pass0 (pa_cons (pv 0) (pa_cons (pv 3) pa_nil))) (pa_cons (pe_callTy (call_tupleK K) (by rfl) N.m_tuple (by decide +kernel) (pa_cons (pv 6) pa_nil)) (pa_cons pe_str (pa_cons (pe_call (w__law_rooms N) (hr.mono (by decide)) (by rfl) N.g__law_rooms N.F__law_rooms.kp N.b__law_rooms .nil pass0 (pa_cons (pv 0) (pa_cons (pv 3) pa_nil))) pa_nil)))))))))))),
   fun B H0 as0 => ar3 fun box_here_1 letters_2 most_rooms_3 => ⟨_, rfl,
 (blk_tup_WWW (i0 := 3) (i1 := 4) (i2 := 5) (ev_op ok_add (EvW.r ev_int) (EvW.r (ev_call (ea_cons (ev_var (i := 0) rfl) (ea_cons (ev_var (i := 2) rfl) ea_nil))))) (ev_op ok_add (EvW.r ev_int) (EvW.r (ev_call (ea_cons (ev_var (i := 0) rfl) (ea_cons ev_int ea_nil))))) (ev_call (ea_cons (ev_var (i := 0) rfl) (ea_cons ev_int ea_nil))) fun rooms_here_4 thin_5 bare_6 =>
 (blk_set (i := 6) (EvN.ew (en_lst ea_nil)) fun ways_7 =>
 (blk_seq (blk_forL (S := U) [7, 8, 9] [7] (fun s_8 => [some (.im box_here_1), some (.im letters_2), some (.im most_rooms_3), some (.im rooms_here_4), some (.im thin_5), some (.im bare_6), some (.im s_8), none, none, none, none]) (by rfl) (src_range1 (EvW.r (ev_var (i := 3) rfl)))
 (fun s_8 room_9 st r q => ⟨_, tg_name (by decide), (blk_last (blk_seq (blk_forL (S := U) [8, 9] [8] (fun s_10 => [some (.im box_here_1), some (.im letters_2), some (.im most_rooms_3), some (.im rooms_here_4), some (.im thin_5), some (.im bare_6), some (.im s_10), some (.im room_9), none, none, none]) (by rfl) (src_range1 (EvW.r (ev_var (i := 1) rfl)))
 (fun s_10 letter_11 st r q => ⟨_, tg_name (by decide), (blk_set (i := 9) (EvN.ew (en_lc (by rfl) (src_range1 (EvW.r (ev_var (i := 3) rfl))) fun end_15 st r q => ⟨_, tg_name (by decide), (et_test (EvW.r (ev_op ok_eq (EvW.r (ev_call (ea_cons (ev_var (i := 0) rfl) (ea_cons (ev_op ok_add (EvW.r (ev_var (i := 4) rfl)) (EvW.r ev_int)) ea_nil)))) (EvW.r ev_int)))), (ev_var (i := 10) rfl)⟩)) fun some_14 =>
 (blk_seq (blk_ifL (S := U) (fun s_17 => [some (.im box_here_1), some (.im letters_2), some (.im most_rooms_3), some (.im rooms_here_4), some (.im thin_5), some (.im bare_6), some (.im s_10), some (.im room_9), some (.im letter_11), some (.im s_17), none]) (et_and (et_test (EvW.r (ev_op ok_eq (EvW.r (ev_var (i := 9) rfl)) (EvW.r (EvN.ew (en_lst ea_nil)))))) (et_test (EvW.r (ev_op ok_gt (EvW.r (ev_var (i := 5) rfl)) (EvW.r ev_int)))))
 (blk_last (blk_set (i := 9) (EvN.ew (en_lst (ea_cons (ev_call (ea_cons (ev_var (i := 0) rfl) (ea_cons (ev_var (i := 3) rfl) ea_nil))) ea_nil))) fun some_18 =>
 (blk_fin [] (by rfl))))
 (blk_fin [] (by rfl))) fun s_17 =>
 (blk_last (blk_set (i := 6) (ev_op ok_add (EvW.r (ev_var (i := 6) rfl)) (EvW.r (EvN.ew (en_lc (by rfl) (src_it (ev_var (i := 9) rfl)) fun end_22 st r q => ⟨_, tg_name (by decide), et_yes, (ev_tup (ea_cons (ev_var (i := 7) rfl) (ea_cons (ev_var (i := 8) rfl) (ea_cons (ev_var (i := 10) rfl) ea_nil))))⟩)))) fun ways_21 =>
 (blk_fin [8, 9] (by rfl))))))⟩)) fun s_10 =>
 (blk_fin [7, 8, 9] (by rfl))))⟩)) fun s_8 =>
 (blk_ret (ef_tup (eaf_cons (EvW.f (ev_var (i := 1) rfl)) (eaf_cons (EvW.f (ev_var (i := 3) rfl)) (eaf_cons (EvW.f (ev_call (ea_cons (ev_var (i := 0) rfl) (ea_cons (ev_var (i := 3) rfl) ea_nil)))) (eaf_cons (EvW.f (ev_cb1 ok_tuple (EvW.r (ev_var (i := 6) rfl)))) (eaf_cons (EvW.f ev_str) (eaf_cons (EvW.f (ev_call (ea_cons (ev_var (i := 0) rfl) (ea_cons (ev_var (i := 3) rfl) ea_nil)))) eaf_nil)))))))))))⟩⟩

noncomputable def m_are_rising (some_1 : U) : M U := fnM (rtO (op1 allU (lcW (zipW (.ret some_1) (slW (.ret some_1) (someP (.ret (.int 1))) noP)) (fun e_4 => un2 e_4 fun one_2 other_3 => (.ret true)) fun e_4 => un2 e_4 fun one_2 other_3 => (op2 ltU (.ret one_2) (.ret other_3)))))
theorem w_are_rising {P : Program} {w : World} {K : PySem.W.Frag} {mg : Str → Option Value} {bs : Heap} (N : En w K mg) : FnOk P w K mg bs CX0 1 (He.ga K "are_rising") N.fd_are_rising ["some"] (spM ⟨K, He.ga K⟩ (L1 m_are_rising)) :=
  fn_okF N.F_are_rising sc_are_rising (ar1 fun _ => rfl) fun cv A o s H E hr => ⟨_, PSs.nox (pss_one (ps_ret (pe_callB (cr_allK K rfl) (by rfl) N.m_all (by decide +kernel) (pa_cons (pe_lc (own := [("one", 1), ("other", 2)]) (by rfl) sc_are_rising.nd (pi_zipAK K (by rfl) N.m_zip (pa_cons (pv 0) (pa_cons (pe_slice (sl_seqK K) (pv 0) (po_some pe_int) po_none) pa_nil))) (blkOk_by (own := [("one", 1), ("other", 2)]) (N := N_are_rising) (sc := defScope s_are_rising) (by decide +kernel)) (fun _ _ _ _ _ => (pg_tupK K (n := 2) rfl (pgs_cons (pg_name (i := 1) sc_are_rising.nd rfl (.inl rfl)) (pgs_cons (pg_name (i := 2) sc_are_rising.nd rfl (.inl rfl)) pgs_nil)))) (fun _ _ _ _ _ => pts_nil) (fun _ _ _ _ _ => (pe_cmpR (op_ltK K hr.units) (pv 1) (pv 2) (nomark _)))) pa_nil)))),
   fun B H0 as0 => ar1 fun some_1 => ⟨_, rfl,
 (blk_ret (EvW.f (ev_cb1 ok_all (EvW.r (EvN.ew (en_lc (by rfl) (src_zip (ev_var (i := 0) rfl) (ev_sl (EvW.r (ev_var (i := 0) rfl)) (eo_some (EvW.r ev_int)) eo_none)) (lcp2 (i := 1) (j := 2) (vs := [1, 2]) (by decide) (by decide) fun one_2 other_3 => ⟨et_yes, (ev_op ok_lt (EvW.r (ev_var (i := 1) rfl)) (EvW.r (ev_var (i := 2) rfl)))⟩)))))))⟩⟩

noncomputable def m_is_whole (thing_1 : U) : M U := fnM (rtO (andW (op1 (isiU · "int") (.ret thing_1)) (op1 notU (op1 (isiU · "bool") (.ret thing_1)))))
theorem w_is_whole {P : Program} {w : World} {K : PySem.W.Frag} {mg : Str → Option Value} {bs : Heap} (N : En w K mg) : FnOk P w K mg bs CX0 1 (He.ga K "is_whole") N.fd_is_whole ["thing"] (spM ⟨K, He.ga K⟩ (L1 m_is_whole)) :=
  fn_okF N.F_is_whole sc_is_whole (ar1 fun _ => rfl) fun cv A o s H E hr => ⟨_, PSs.nox (pss_one (ps_ret (pe_and (pe_callB (call_isiK K) (by rfl) N.m_isinstance (by decide +kernel) (pa_cons (pv 0) (pa_cons (pe_bltn (v := .ty "int") (by rfl) N.m_int (by decide +kernel) rfl) pa_nil))) (pe_one (pe_not (pe_callB (call_isiK K) (by rfl) N.m_isinstance (by decide +kernel) (pa_cons (pv 0) (pa_cons (pe_bltn (v := .ty "bool") (by rfl) N.m_bool (by decide +kernel) rfl) pa_nil)))))))),
   fun B H0 as0 => ar1 fun thing_1 => ⟨_, rfl,
 (blk_ret (EvW.f (ev_and (EvW.r (ev_isi (EvW.r (ev_var (i := 0) rfl)))) (ev_not (EvW.r (ev_isi (EvW.r (ev_var (i := 0) rfl))))))))⟩⟩

noncomputable def m_is_below (thing_1 many_2 : U) : M U := fnM (rtO (andW (callM (L1 m_is_whole) (consA (.ret thing_1) nilA)) (chainW leU ltU (.ret (.int 0)) (.ret thing_1) (.ret many_2))))
theorem w_is_below {P : Program} {w : World} {K : PySem.W.Frag} {mg : Str → Option Value} {bs : Heap} (N : En w K mg) : FnOk P w K mg bs CX0 2 (He.ga K "is_below") N.fd_is_below ["thing", "many"] (spM ⟨K, He.ga K⟩ (L2' m_is_below)) :=
  fn_okF N.F_is_below sc_is_below (ar2 fun _ _ => rfl) fun cv A o s H E hr => ⟨_, PSs.nox (pss_one (ps_ret (pe_and (pe_call (w_is_whole N) (hr.mono (by decide)) (by rfl) N.g_is_whole N.F_is_whole.kp N.b_is_whole .nil pass0 (pa_cons (pv 0) pa_nil)) (pe_one (pe_chain op_le (op_ltK K hr.units) pe_int (pv 0) (pv 1)))))),
   fun B H0 as0 => ar2 fun thing_1 many_2 => ⟨_, rfl,
 (blk_ret (EvW.f (ev_and (EvW.r (ev_call (ea_cons (ev_var (i := 0) rfl) ea_nil))) (ev_chain ok_le ok_lt (EvW.r ev_int) (EvW.r (ev_var (i := 0) rfl)) (EvW.r (ev_var (i := 1) rfl))))))⟩⟩

noncomputable def m_are_rising_below (thing_1 many_2 : U) : M U := fnM (rtO (andW (op1 (isiU · "tuple") (.ret thing_1)) (andW (op1 allU (lcW (itW (.ret thing_1)) (fun one_3 => (.ret true)) fun one_3 => (callM (L2' m_is_below) (consA (.ret one_3) (consA (.ret many_2) nilA))))) (callM (L1 m_are_rising) (consA (.ret thing_1) nilA)))))
theorem w_are_rising_below {P : Program} {w : World} {K : PySem.W.Frag} {mg : Str → Option Value} {bs : Heap} (N : En w K mg) : FnOk P w K mg bs CX0 3 (He.ga K "are_rising_below") N.fd_are_rising_below ["thing", "many"] (spM ⟨K, He.ga K⟩ (L2' m_are_rising_below)) :=
  fn_okF N.F_are_rising_below sc_are_rising_below (ar2 fun _ _ => rfl) fun cv A o s H E hr => ⟨_, PSs.nox (pss_one (ps_ret (pe_and (pe_callB (call_isiK K) (by rfl) N.m_isinstance (by decide +kernel) (pa_cons (pv 0) (pa_cons (pe_bltn (v := .ty "tuple") (by rfl) N.m_tuple (by decide +kernel) rfl) pa_nil))) (pe_and (pe_callB (cr_allK K rfl) (by rfl) N.m_all (by decide +kernel) (pa_cons (pe_lc (own := [("one", 2)]) (by rfl) sc_are_rising_below.nd (pi_seqK K (pv 0)) (blkOk_by (own := [("one", 2)]) (N := N_are_rising_below) (sc := defScope s_are_rising_below) (by decide +kernel)) (fun _ _ _ _ _ => (pg_name (i := 2) sc_are_rising_below.nd rfl (.inl rfl))) (fun _ _ _ _ _ => pts_nil) (fun _ _ _ _ _ => (pe_call (w_is_below N) (hr.mono (by decide)) (by rfl) N.g_is_below N.F_is_below.kp N.b_is_below .nil pass0 (pa_cons (pv 2) (pa_cons (pv 1) pa_nil))))) pa_nil)) (pe_one (pe_call (w_are_rising N) (hr.mono (by decide)) (by rfl) N.g_are_rising N.F_are_rising.kp N.b_are_rising .nil pass0 (pa_cons (pv 0) pa_nil))))))),
   fun B H0 as0 => ar2 fun thing_1 many_2 => ⟨_, rfl,
 (blk_ret (EvW.f (ev_and (EvW.r (ev_isi (EvW.r (ev_var (i := 0) rfl)))) (ev_and (EvW.r (ev_cb1 ok_all (EvW.r (EvN.ew (en_lc (by rfl) (src_it (ev_var (i := 0) rfl)) fun one_3 st r q => ⟨_, tg_name (by decide), et_yes, (ev_call (ea_cons (ev_var (i := 2) rfl) (ea_cons (ev_var (i := 1) rfl) ea_nil)))⟩))))) (ev_call (ea_cons (ev_var (i := 0) rfl) ea_nil))))))⟩⟩

noncomputable def m_are_rooms (rooms_1 thing_2 : U) : M U := fnM (rtO (callM (L2' m_are_rising_below) (consA (.ret thing_2) (consA (.ret rooms_1) nilA))))
theorem w_are_rooms {P : Program} {w : World} {K : PySem.W.Frag} {mg : Str → Option Value} {bs : Heap} (N : En w K mg) : FnOk P w K mg bs CX0 4 (He.ga K "are_rooms") N.fd_are_rooms ["rooms", "thing"] (spM ⟨K, He.ga K⟩ (L2' m_are_rooms)) :=
  fn_okF N.F_are_rooms sc_are_rooms (ar2 fun _ _ => rfl) fun cv A o s H E hr => ⟨_, PSs.nox (pss_one (ps_ret (pe_call (w_are_rising_below N) (hr.mono (by decide)) (by rfl) N.g_are_rising_below N.F_are_rising_below.kp N.b_are_rising_below .nil pass0 (pa_cons (pv 1) (pa_cons (pv 0) pa_nil))))),
   fun B H0 as0 => ar2 fun rooms_1 thing_2 => ⟨_, rfl,
 (blk_ret (EvW.f (ev_call (ea_cons (ev_var (i := 1) rfl) (ea_cons (ev_var (i := 0) rfl) ea_nil)))))⟩⟩

noncomputable def m_are_pairs (rooms_1 thing_2 : U) : M U := fnM (seqO (S := Unit) (iteW (notT (testW (op1 (isiU · "tuple") (.ret thing_2)))) (rtO (.ret (.bl false))) (nxO ())) fun s_3 => (seqO (S := Unit) (.bind (itW (.ret thing_2)) fun us => forO (fun pair_5 s_4 => (iteW (orT (notT (testW (op1 (isiU · "tuple") (.ret pair_5)))) (orT (testW (op2 neU (op1 lenU (.ret pair_5)) (.ret (.int 2)))) (notT (testW (op1 allU (lcW (itW (.ret pair_5)) (fun part_6 => (.ret true)) fun part_6 => (callM (L2' m_are_rooms) (consA (.ret rooms_1) (consA (.ret part_6) nilA))))))))) (rtO (.ret (.bl false))) (nxO ()))) us ()) fun s_4 => (rtO (.ret (.bl true)))))
theorem w_are_pairs {P : Program} {w : World} {K : PySem.W.Frag} {mg : Str → Option Value} {bs : Heap} (N : En w K mg) : FnOk P w K mg bs CX0 5 (He.ga K "are_pairs") N.fd_are_pairs ["rooms", "thing"] (spM ⟨K, He.ga K⟩ (L2' m_are_pairs)) :=
  fn_okF N.F_are_pairs sc_are_pairs (ar2 fun _ _ => rfl) fun cv A o s H E hr => ⟨_, PSs.nox (pss_cons (ps_if (pt_not (pt_val (pe_callB (call_isiK K) (by rfl) N.m_isinstance (by decide +kernel) (pa_cons (pv 1) (pa_cons (pe_bltn (v := .ty "tuple") (by rfl) N.m_tuple (by decide +kernel) rfl) pa_nil)))))
 (pss_one (ps_ret pe_bl))
 pss_nil)
 (pss_cons (ps_for PassesOwn.never rfl (pi_seqK K (pv 1)) (pg_name (i := 2) sc_are_pairs.nd rfl (.inl rfl))
 (pss_one (ps_if (PW.pt (pw_or (pt_not (pt_val (pe_callB (call_isiK K) (by rfl) N.m_isinstance (by decide +kernel) (pa_cons (pv 2) (pa_cons (pe_bltn (v := .ty "tuple") (by rfl) N.m_tuple (by decide +kernel) rfl) pa_nil))))) (pw_or (pt_cmpR (op_neK K hr.units) (pe_callB (call_lenK K) (by rfl) N.m_len PySem.boot_len (pa_cons (pv 2) pa_nil)) pe_int (nomark _)) (pw_or1 (pt_not (pt_val (pe_callB (cr_allK K rfl) (by rfl) N.m_all (by decide +kernel) (pa_cons (pe_lc (own := [("part", 3)]) (by rfl) sc_are_pairs.nd (pi_seqK K (pv 2)) (blkOk_by (own := [("part", 3)]) (N := N_are_pairs) (sc := defScope s_are_pairs) (by decide +kernel)) (fun _ _ _ _ _ => (pg_name (i := 3) sc_are_pairs.nd rfl (.inl rfl))) (fun _ _ _ _ _ => pts_nil) (fun _ _ _ _ _ => (pe_call (w_are_rooms N) (hr.mono (by decide)) (by rfl) N.g_are_rooms N.F_are_rooms.kp N.b_are_rooms .nil pass0 (pa_cons (pv 0) (pa_cons (pv 3) pa_nil))))) pa_nil))))))))
 (pss_one (ps_ret pe_bl))
 pss_nil)))
 (pss_one (ps_ret pe_bl)))),
   fun B H0 as0 => ar2 fun rooms_1 thing_2 => ⟨_, rfl,
 (blk_seq (blk_ifL (S := Unit) (fun s_3 => [some (.im rooms_1), some (.im thing_2), none, none]) (et_not (et_B (EvW.r (ev_isi (EvW.r (ev_var (i := 1) rfl))))))
 (blk_ret (EvW.f ev_bl))
 (blk_fin [] (by rfl))) fun s_3 =>
 (blk_seq (blk_forL (S := Unit) [2] [2] (fun s_4 => [some (.im rooms_1), some (.im thing_2), none, none]) (by rfl) (src_it (ev_var (i := 1) rfl))
 (fun s_4 pair_5 st r q => ⟨_, tg_name (by decide), (blk_if (et_or (et_not (et_B (EvW.r (ev_isi (EvW.r (ev_var (i := 2) rfl)))))) (et_or (et_test (EvW.r (ev_op ok_ne (EvW.r (ev_cb1 ok_len (EvW.r (ev_var (i := 2) rfl)))) (EvW.r ev_int)))) (et_not (et_B (EvW.r (ev_cb1 ok_all (EvW.r (EvN.ew (en_lc (by rfl) (src_it (ev_var (i := 2) rfl)) fun part_6 st r q => ⟨_, tg_name (by decide), et_yes, (ev_call (ea_cons (ev_var (i := 0) rfl) (ea_cons (ev_var (i := 3) rfl) ea_nil)))⟩)))))))))
 (blk_ret (EvW.f ev_bl))
 (blk_fin [2] (by rfl)))⟩)) fun s_4 =>
 (blk_ret (EvW.f ev_bl))))⟩⟩

noncomputable def m_are_ranks (rooms_1 thing_2 : U) : M U := fnM (rtO (andW (op1 (isiU · "tuple") (.ret thing_2)) (andW (op2 eqU (op1 lenU (.ret thing_2)) (.ret rooms_1)) (op1 allU (lcW (itW (.ret thing_2)) (fun one_3 => (.ret true)) fun one_3 => (andW (callM (L1 m_is_whole) (consA (.ret one_3) nilA)) (op2 geU (.ret one_3) (.ret (.int 0)))))))))
theorem w_are_ranks {P : Program} {w : World} {K : PySem.W.Frag} {mg : Str → Option Value} {bs : Heap} (N : En w K mg) : FnOk P w K mg bs CX0 2 (He.ga K "are_ranks") N.fd_are_ranks ["rooms", "thing"] (spM ⟨K, He.ga K⟩ (L2' m_are_ranks)) :=
  fn_okF N.F_are_ranks sc_are_ranks (ar2 fun _ _ => rfl) fun cv A o s H E hr => ⟨_, PSs.nox (pss_one (ps_ret (pe_and (pe_callB (call_isiK K) (by rfl) N.m_isinstance (by decide +kernel) (pa_cons (pv 1) (pa_cons (pe_bltn (v := .ty "tuple") (by rfl) N.m_tuple (by decide +kernel) rfl) pa_nil))) (pe_and (pe_cmpR (op_eqK K hr.units) (pe_callB (call_lenK K) (by rfl) N.m_len PySem.boot_len (pa_cons (pv 1) pa_nil)) (pv 0) (nomark _)) (pe_one (pe_callB (cr_allK K rfl) (by rfl) N.m_all (by decide +kernel) (pa_cons (pe_lc (own := [("one", 2)]) (by rfl) sc_are_ranks.nd (pi_seqK K (pv 1)) (blkOk_by (own := [("one", 2)]) (N := N_are_ranks) (sc := defScope s_are_ranks) (by decide +kernel)) (fun _ _ _ _ _ => (pg_name (i := 2) sc_are_ranks.nd rfl (.inl rfl))) (fun _ _ _ _ _ => pts_nil) (fun _ _ _ _ _ => (pe_and (pe_call (w_is_whole N) (hr.mono (by decide)) (by rfl) N.g_is_whole N.F_is_whole.kp N.b_is_whole .nil pass0 (pa_cons (pv 2) pa_nil)) (pe_one (pe_cmpR op_ge (pv 2) pe_int (nomark _)))))) pa_nil))))))),
   fun B H0 as0 => ar2 fun rooms_1 thing_2 => ⟨_, rfl,
 (blk_ret (EvW.f (ev_and (EvW.r (ev_isi (EvW.r (ev_var (i := 1) rfl)))) (ev_and (EvW.r (ev_op ok_eq (EvW.r (ev_cb1 ok_len (EvW.r (ev_var (i := 1) rfl)))) (EvW.r (ev_var (i := 0) rfl)))) (ev_cb1 ok_all (EvW.r (EvN.ew (en_lc (by rfl) (src_it (ev_var (i := 1) rfl)) fun one_3 st r q => ⟨_, tg_name (by decide), et_yes, (ev_and (EvW.r (ev_call (ea_cons (ev_var (i := 2) rfl) ea_nil))) (ev_op ok_ge (EvW.r (ev_var (i := 2) rfl)) (EvW.r ev_int)))⟩))))))))⟩⟩

noncomputable def m_are_ways (letters_1 rooms_2 thing_3 : U) : M U := fnM (seqO (S := Unit) (iteW (notT (testW (op1 (isiU · "tuple") (.ret thing_3)))) (rtO (.ret (.bl false))) (nxO ())) fun s_4 => (seqO (S := Unit) (.bind (itW (.ret thing_3)) fun us => forO (fun way_6 s_5 => (seqO (S := Unit) (iteW (orT (notT (testW (op1 (isiU · "tuple") (.ret way_6)))) (testW (op2 neU (op1 lenU (.ret way_6)) (.ret (.int 3))))) (rtO (.ret (.bl false))) (nxO ())) fun s_7 => (iteW (orT (notT (testW (callM (L2' m_is_below) (consA (op2 ixU (.ret way_6) (.ret (.int 0))) (consA (.ret rooms_2) nilA))))) (orT (notT (testW (callM (L2' m_is_below) (consA (op2 ixU (.ret way_6) (.ret (.int 1))) (consA (.ret letters_1) nilA))))) (notT (testW (callM (L2' m_is_below) (consA (op2 ixU (.ret way_6) (.ret (.int 2))) (consA (.ret rooms_2) nilA))))))) (rtO (.ret (.bl false))) (nxO ())))) us ()) fun s_5 => (rtO (callM (L1 m_are_rising) (consA (.ret thing_3) nilA)))))
theorem w_are_ways {P : Program} {w : World} {K : PySem.W.Frag} {mg : Str → Option Value} {bs : Heap} (N : En w K mg) : FnOk P w K mg bs CX0 3 (He.ga K "are_ways") N.fd_are_ways ["letters", "rooms", "thing"] (spM ⟨K, He.ga K⟩ (L3 m_are_ways)) :=
  fn_okF N.F_are_ways sc_are_ways (ar3 fun _ _ _ => rfl) fun cv A o s H E hr => ⟨_, PSs.nox (pss_cons (ps_if (pt_not (pt_val (pe_callB (call_isiK K) (by rfl) N.m_isinstance (by decide +kernel) (pa_cons (pv 2) (pa_cons (pe_bltn (v := .ty "tuple") (by rfl) N.m_tuple (by decide +kernel) rfl) pa_nil)))))
 (pss_one (ps_ret pe_bl))
 pss_nil)
 (pss_cons (ps_for PassesOwn.never rfl (pi_seqK K (pv 2)) (pg_name (i := 3) sc_are_ways.nd rfl (.inl rfl))
 (pss_cons (ps_if (PW.pt (pw_or (pt_not (pt_val (pe_callB (call_isiK K) (by rfl) N.m_isinstance (by decide +kernel) (pa_cons (pv 3) (pa_cons (pe_bltn (v := .ty "tuple") (by rfl) N.m_tuple (by decide +kernel) rfl) pa_nil))))) (pw_or1 (pt_cmpR (op_neK K hr.units) (pe_callB (call_lenK K) (by rfl) N.m_len PySem.boot_len (pa_cons (pv 3) pa_nil)) pe_int (nomark _)))))
 (pss_one (ps_ret pe_bl))
 pss_nil)
 (pss_one (ps_if (PW.pt (pw_or (pt_not (pt_val (pe_call (w_is_below N) (hr.mono (by decide)) (by rfl) N.g_is_below N.F_is_below.kp N.b_is_below .nil pass0 (pa_cons (pe_ix (ix_seqK K) (pv 3) pe_int (fun _ _ => rfl)) (pa_cons (pv 1) pa_nil))))) (pw_or (pt_not (pt_val (pe_call (w_is_below N) (hr.mono (by decide)) (by rfl) N.g_is_below N.F_is_below.kp N.b_is_below .nil pass0 (pa_cons (pe_ix (ix_seqK K) (pv 3) pe_int (fun _ _ => rfl)) (pa_cons (pv 0) pa_nil))))) (pw_or1 (pt_not (pt_val (pe_call (w_is_below N) (hr.mono (by decide)) (by rfl) N.g_is_below N.F_is_below.kp N.b_is_below .nil pass0 (pa_cons (pe_ix (ix_seqK K) (pv 3) pe_int (fun _ _ => rfl)) (pa_cons (pv 1) pa_nil)))))))))
 (pss_one (ps_ret pe_bl))
 pss_nil))))
 (pss_one (ps_ret (pe_call (w_are_rising N) (hr.mono (by decide)) (by rfl) N.g_are_rising N.F_are_rising.kp N.b_are_rising .nil pass0 (pa_cons (pv 2) pa_nil)))))),
   fun B H0 as0 => ar3 fun letters_1 rooms_2 thing_3 => ⟨_, rfl,
 (blk_seq (blk_ifL (S := Unit) (fun s_4 => [some (.im letters_1), some (.im rooms_2), some (.im thing_3), none]) (et_not (et_B (EvW.r (ev_isi (EvW.r (ev_var (i := 2) rfl))))))
 (blk_ret (EvW.f ev_bl))
 (blk_fin [] (by rfl))) fun s_4 =>
 (blk_seq (blk_forL (S := Unit) [3] [3] (fun s_5 => [some (.im letters_1), some (.im rooms_2), some (.im thing_3), none]) (by rfl) (src_it (ev_var (i := 2) rfl))
 (fun s_5 way_6 st r q => ⟨_, tg_name (by decide), (blk_seq (blk_ifL (S := Unit) (fun s_7 => [some (.im letters_1), some (.im rooms_2), some (.im thing_3), some (.im way_6)]) (et_or (et_not (et_B (EvW.r (ev_isi (EvW.r (ev_var (i := 3) rfl)))))) (et_test (EvW.r (ev_op ok_ne (EvW.r (ev_cb1 ok_len (EvW.r (ev_var (i := 3) rfl)))) (EvW.r ev_int)))))
 (blk_ret (EvW.f ev_bl))
 (blk_fin [] (by rfl))) fun s_7 =>
 (blk_if (et_or (et_not (et_B (EvW.r (ev_call (ea_cons (ev_op ok_ix (EvW.r (ev_var (i := 3) rfl)) (EvW.r ev_int)) (ea_cons (ev_var (i := 1) rfl) ea_nil)))))) (et_or (et_not (et_B (EvW.r (ev_call (ea_cons (ev_op ok_ix (EvW.r (ev_var (i := 3) rfl)) (EvW.r ev_int)) (ea_cons (ev_var (i := 0) rfl) ea_nil)))))) (et_not (et_B (EvW.r (ev_call (ea_cons (ev_op ok_ix (EvW.r (ev_var (i := 3) rfl)) (EvW.r ev_int)) (ea_cons (ev_var (i := 1) rfl) ea_nil))))))))
 (blk_ret (EvW.f ev_bl))
 (blk_fin [3] (by rfl))))⟩)) fun s_5 =>
 (blk_ret (EvW.f (ev_call (ea_cons (ev_var (i := 2) rfl) ea_nil))))))⟩⟩

noncomputable def m_fault_of (letters_1 rooms_2 start_3 ways_4 kind_5 by_6 : U) : M U := fnM (seqO (S := Unit) (iteW (orT (notT (testW (callM (L1 m_is_whole) (consA (.ret letters_1) nilA)))) (notT (testW (chainW leU leU (.ret (.int 1)) (.ret letters_1) (.ret (.int 4)))))) (rtO (.ret (.str "letters"))) (nxO ())) fun s_7 => (seqO (S := Unit) (iteW (orT (notT (testW (callM (L1 m_is_whole) (consA (.ret rooms_2) nilA)))) (testW (op2 ltU (.ret rooms_2) (.ret (.int 1))))) (rtO (.ret (.str "rooms"))) (nxO ())) fun s_8 => (seqO (S := Unit) (iteW (notT (testW (callM (L2' m_is_below) (consA (.ret start_3) (consA (.ret rooms_2) nilA))))) (rtO (.ret (.str "start"))) (nxO ())) fun s_9 => (seqO (S := Unit) (iteW (notT (testW (callM (L3 m_are_ways) (consA (.ret letters_1) (consA (.ret rooms_2) (consA (.ret ways_4) nilA)))))) (rtO (.ret (.str "ways"))) (nxO ())) fun s_10 => (seqO (S := Unit) (iteW (orT (notT (testW (op1 (isiU · "str") (.ret kind_5)))) (testW (op2 (notTabU "KINDS" tab_KINDS) (.ret kind_5) (.ret (.top "KINDS"))))) (rtO (.ret (.str "kind"))) (nxO ())) fun s_11 => (.bind (op2 (itemTabU "KINDS" tab_KINDS) (.ret (.top "KINDS")) (.ret kind_5)) fun looked_12 => (rtO (iteW (testW (callJM [("are_rooms", L2' m_are_rooms), ("are_pairs", L2' m_are_pairs), ("are_ranks", L2' m_are_ranks)] looked_12 (consA (.ret rooms_2) (consA (.ret by_6) nilA)))) (.ret .non) (.ret (.str "by"))))))))))
theorem w_fault_of {P : Program} {w : World} {K : PySem.W.Frag} {mg : Str → Option Value} {bs : Heap} (N : En w K mg) : FnOk P w K mg bs CX0 6 (He.ga K "fault_of") N.fd_fault_of ["letters", "rooms", "start", "ways", "kind", "by"] (spM ⟨K, He.ga K⟩ (L6 m_fault_of)) :=
  fn_okF N.F_fault_of sc_fault_of (ar6 fun _ _ _ _ _ _ => rfl) fun cv A o s H E hr => ⟨_, PSs.nox (pss_cons (ps_if (PW.pt (pw_or (pt_not (pt_val (pe_call (w_is_whole N) (hr.mono (by decide)) (by rfl) N.g_is_whole N.F_is_whole.kp N.b_is_whole .nil pass0 (pa_cons (pv 0) pa_nil)))) (pw_or1 (pt_not (pt_chain op_le op_le pe_int (pv 0) (pe_glob (v := .int 4) rfl N.k_MOST_LETTERS ⟨_, rfl⟩))))))
 (pss_one (ps_ret pe_str))
 pss_nil)
 (pss_cons (ps_if (PW.pt (pw_or (pt_not (pt_val (pe_call (w_is_whole N) (hr.mono (by decide)) (by rfl) N.g_is_whole N.F_is_whole.kp N.b_is_whole .nil pass0 (pa_cons (pv 1) pa_nil)))) (pw_or1 (pt_cmpR (op_ltK K hr.units) (pv 1) pe_int (nomark _)))))
 (pss_one (ps_ret pe_str))
 pss_nil)
 (pss_cons (ps_if (pt_not (pt_val (pe_call (w_is_below N) (hr.mono (by decide)) (by rfl) N.g_is_below N.F_is_below.kp N.b_is_below .nil pass0 (pa_cons (pv 2) (pa_cons (pv 1) pa_nil)))))
 (pss_one (ps_ret pe_str))
 pss_nil)
 (pss_cons (ps_if (pt_not (pt_val (pe_call (w_are_ways N) (hr.mono (by decide)) (by rfl) N.g_are_ways N.F_are_ways.kp N.b_are_ways .nil pass0 (pa_cons (pv 0) (pa_cons (pv 1) (pa_cons (pv 3) pa_nil))))))
 (pss_one (ps_ret pe_str))
 pss_nil)
 (pss_cons (ps_if (PW.pt (pw_or (pt_not (pt_val (pe_callB (call_isiK K) (by rfl) N.m_isinstance (by decide +kernel) (pa_cons (pv 4) (pa_cons (pe_bltn (v := .ty "str") (by rfl) N.m_str (by decide +kernel) rfl) pa_nil))))) (pw_or1 (pt_cmpR (op_notTabK K N.T_KINDS) (pv 4) (pe_glob (v := .ref (He.ga K "KINDS")) rfl N.g_KINDS rfl) (by rfl)))))
 (pss_one (ps_ret pe_str))
 pss_nil)
 (pss_cons (ps_set (i := 6) sc_fault_of.nd rfl (.inl rfl) (pe_ix (ix_kdictK K w) (pe_glob (v := .ref (He.ga K "KINDS")) rfl N.g_KINDS rfl) (pv 4) (fun _ _ => rfl)))
 (pss_one (ps_ret (pe_ifExp (pt_val (pe_callJ (callJ_cons (pe_callL (i := 6) (w_are_rooms N) (hr.mono (by decide)) rfl (by first | exact Or.inl rfl | exact Or.inr (Or.inl rfl) | exact Or.inr (Or.inr rfl)) N.F_are_rooms.kp N.b_are_rooms .nil pass0 (pa_cons (pv 1) (pa_cons (pv 5) pa_nil))) (callJ_cons (pe_callL (i := 6) (w_are_pairs N) (hr.mono (by decide)) rfl (by first | exact Or.inl rfl | exact Or.inr (Or.inl rfl) | exact Or.inr (Or.inr rfl)) N.F_are_pairs.kp N.b_are_pairs .nil pass0 (pa_cons (pv 1) (pa_cons (pv 5) pa_nil))) (callJ_cons (pe_callL (i := 6) (w_are_ranks N) (hr.mono (by decide)) rfl (by first | exact Or.inl rfl | exact Or.inr (Or.inl rfl) | exact Or.inr (Or.inr rfl)) N.F_are_ranks.kp N.b_are_ranks .nil pass0 (pa_cons (pv 1) (pa_cons (pv 5) pa_nil))) callJ_nil))))) pe_non pe_str))))))))),
   fun B H0 as0 => ar6 fun letters_1 rooms_2 start_3 ways_4 kind_5 by_6 => ⟨_, rfl,
 (blk_seq (blk_ifL (S := Unit) (fun s_7 => [some (.im letters_1), some (.im rooms_2), some (.im start_3), some (.im ways_4), some (.im kind_5), some (.im by_6), none]) (et_or (et_not (et_B (EvW.r (ev_call (ea_cons (ev_var (i := 0) rfl) ea_nil))))) (et_not (et_test (EvW.r (ev_chain ok_le ok_le (EvW.r ev_int) (EvW.r (ev_var (i := 0) rfl)) (EvW.r ev_int))))))
 (blk_ret (EvW.f ev_str))
 (blk_fin [] (by rfl))) fun s_7 =>
 (blk_seq (blk_ifL (S := Unit) (fun s_8 => [some (.im letters_1), some (.im rooms_2), some (.im start_3), some (.im ways_4), some (.im kind_5), some (.im by_6), none]) (et_or (et_not (et_B (EvW.r (ev_call (ea_cons (ev_var (i := 1) rfl) ea_nil))))) (et_test (EvW.r (ev_op ok_lt (EvW.r (ev_var (i := 1) rfl)) (EvW.r ev_int)))))
 (blk_ret (EvW.f ev_str))
 (blk_fin [] (by rfl))) fun s_8 =>
 (blk_seq (blk_ifL (S := Unit) (fun s_9 => [some (.im letters_1), some (.im rooms_2), some (.im start_3), some (.im ways_4), some (.im kind_5), some (.im by_6), none]) (et_not (et_B (EvW.r (ev_call (ea_cons (ev_var (i := 2) rfl) (ea_cons (ev_var (i := 1) rfl) ea_nil))))))
 (blk_ret (EvW.f ev_str))
 (blk_fin [] (by rfl))) fun s_9 =>
 (blk_seq (blk_ifL (S := Unit) (fun s_10 => [some (.im letters_1), some (.im rooms_2), some (.im start_3), some (.im ways_4), some (.im kind_5), some (.im by_6), none]) (et_not (et_B (EvW.r (ev_call (ea_cons (ev_var (i := 0) rfl) (ea_cons (ev_var (i := 1) rfl) (ea_cons (ev_var (i := 3) rfl) ea_nil)))))))
 (blk_ret (EvW.f ev_str))
 (blk_fin [] (by rfl))) fun s_10 =>
 (blk_seq (blk_ifL (S := Unit) (fun s_11 => [some (.im letters_1), some (.im rooms_2), some (.im start_3), some (.im ways_4), some (.im kind_5), some (.im by_6), none]) (et_or (et_not (et_B (EvW.r (ev_isi (EvW.r (ev_var (i := 4) rfl)))))) (et_test (EvW.r (ev_op (ok_notTab N.T_KINDS) (EvW.r (ev_var (i := 4) rfl)) (EvW.r ev_top)))))
 (blk_ret (EvW.f ev_str))
 (blk_fin [] (by rfl))) fun s_11 =>
 (blk_set (i := 6) (ev_op (ok_itemTab N.T_KINDS) (EvW.r ev_top) (EvW.r (ev_var (i := 4) rfl))) fun looked_12 =>
 (blk_ret (EvW.f (ev_if (et_B (EvW.r (ev_callJ (i := 6) rfl (ea_cons (ev_var (i := 1) rfl) (ea_cons (ev_var (i := 5) rfl) ea_nil))))) ev_non ev_str)))))))))⟩⟩

noncomputable def m_Hall___init__ (self_1 letters_2 rooms_3 start_4 ways_5 kind_6 by_7 : U) : M U := fnM (.bind (callM (L6 m_fault_of) (consA (.ret letters_2) (consA (.ret rooms_3) (consA (.ret start_4) (consA (.ret ways_5) (consA (.ret kind_6) (consA (.ret by_7) nilA))))))) fun why_8 => (seqO (S := Unit) (iteW (testW (.bind (.ret why_8) fun a => .ret (.bl (!isNU a)))) (.raise .non) (nxO ())) fun s_9 => (.bind (.bind (.ret letters_2) fun u => .o (leafO u)) fun x => .bind (locM self_1) fun c => .bind (.o (newF ["Hall"] "letters" c x)) fun u => .bind (putC c.1 u) fun _ => (.bind (.bind (.ret rooms_3) fun u => .o (leafO u)) fun x => .bind (locM self_1) fun c => .bind (.o (newF ["Hall"] "rooms" c x)) fun u => .bind (putC c.1 u) fun _ => (.bind (.bind (.ret start_4) fun u => .o (leafO u)) fun x => .bind (locM self_1) fun c => .bind (.o (newF ["Hall"] "start" c x)) fun u => .bind (putC c.1 u) fun _ => (.bind (.bind (.ret ways_5) fun u => .o (leafO u)) fun x => .bind (locM self_1) fun c => .bind (.o (newF ["Hall"] "ways" c x)) fun u => .bind (putC c.1 u) fun _ => (.bind (.bind (.ret kind_6) fun u => .o (leafO u)) fun x => .bind (locM self_1) fun c => .bind (.o (newF ["Hall"] "kind" c x)) fun u => .bind (putC c.1 u) fun _ => (.bind (.bind (.ret by_7) fun u => .o (leafO u)) fun x => .bind (locM self_1) fun c => .bind (.o (newF ["Hall"] "by" c x)) fun u => .bind (putC c.1 u) fun _ => (.bind (lcW (rng1W (.ret rooms_3)) (fun room_10 => (.ret true)) fun room_10 => (.ret (.dct [] []))) fun x => .bind (locM self_1) fun c => .bind (.o (newF ["Hall"] "goals" c x)) fun u => .bind (putC c.1 u) fun _ => (seqO (S := Unit) (.bind (itW (.ret ways_5)) fun us => forO (fun e_15 s_11 => un3 e_15 fun room_12 letter_13 end_14 => (.bind (.bind (.bind (.bind (.ret self_1) locM) fun c => .o (fldC ["Hall"] "goals" c)) fun c => .bind (.ret room_12) fun n => .o (ixC c n)) fun c => .bind (.ret letter_13) fun y => .bind (.o (sdAppU c.2.1 y end_14)) fun d => .bind (putC c.1 (c.2.2 d)) fun _ => (nxO ()))) us ()) fun s_11 => (nxO ())))))))))))
theorem w_Hall___init__ {P : Program} {w : World} {K : PySem.W.Frag} {mg : Str → Option Value} {bs : Heap} (N : En w K mg) : FnOk P w K mg bs CX0 7 (He.ma K (He.ga K "Hall") "__init__") N.fd_Hall___init__ ["self", "letters", "rooms", "start", "ways", "kind", "by"] (spM ⟨K, He.ga K⟩ (L7 m_Hall___init__)) :=
  fn_okF N.F_Hall___init__ sc_Hall___init__ (ar7 fun _ _ _ _ _ _ _ => rfl) fun cv A o s H E hr => ⟨_, PSs.nox (pss_cons (ps_set (i := 7) sc_Hall___init__.nd rfl (.inl rfl) (pe_call (w_fault_of N) (hr.mono (by decide)) (by rfl) N.g_fault_of N.F_fault_of.kp N.b_fault_of .nil pass0 (pa_cons (pv 1) (pa_cons (pv 2) (pa_cons (pv 3) (pa_cons (pv 4) (pa_cons (pv 5) (pa_cons (pv 6) pa_nil))))))))
 (pss_cons (ps_if (pt_cmpR op_notN (pv 7) pe_non (nomark _))
 (pss_one ps_never)
 pss_nil)
 (pss_cons (ps_fld (pv 0) (pv 1) rfl)
 (pss_cons (ps_fld (pv 0) (pv 2) rfl)
 (pss_cons (ps_fld (pv 0) (pv 3) rfl)
 (pss_cons (ps_fld (pv 0) (pv 4) rfl)
 (pss_cons (ps_fld (pv 0) (pv 5) rfl)
 (pss_cons (ps_fld (pv 0) (pv 6) rfl)
 (pss_cons (ps_fld (pv 0) (pe_lc (own := [("room", 8)]) (by rfl) sc_Hall___init__.nd (pi_range1 (by rfl) N.m_range (pa_cons (pv 2) pa_nil)) (blkOk_by (own := [("room", 8)]) (N := N_Hall___init__) (sc := defScope s_Hall___init__) (by decide +kernel)) (fun _ _ _ _ _ => (pg_name (i := 8) sc_Hall___init__.nd rfl (.inl rfl))) (fun _ _ _ _ _ => pts_nil) (fun _ _ _ _ _ => pe_dnewK)) rfl)
 (pss_one (ps_for PassesOwn.never rfl (pi_seqK K (pv 4)) (pg_tup rfl (pgs_cons (pg_name (i := 8) sc_Hall___init__.nd rfl (.inl rfl)) (pgs_cons (pg_name (i := 9) sc_Hall___init__.nd rfl (.inl rfl)) (pgs_cons (pg_name (i := 10) sc_Hall___init__.nd rfl (.inl rfl)) pgs_nil))))
 (pss_one (ps_expr (pe_bm PySem.F.plainAttrs_list PySem.F.slot_list_append PySem.F.type_list_append mt_append (pe_dsetd (pe_ix (ix_seqK K) (pe_fldK K (pv 0) rfl) (pv 8) (fun _ _ => rfl)) (pv 9) (pe_lst pa_nil) ⟨rfl, rfl, rfl, rfl⟩) (pa_cons (pv 10) pa_nil))))))))))))))),
   fun B H0 as0 => ar7 fun self_1 letters_2 rooms_3 start_4 ways_5 kind_6 by_7 => ⟨_, rfl,
 (blk_set (i := 7) (ev_call (ea_cons (ev_var (i := 1) rfl) (ea_cons (ev_var (i := 2) rfl) (ea_cons (ev_var (i := 3) rfl) (ea_cons (ev_var (i := 4) rfl) (ea_cons (ev_var (i := 5) rfl) (ea_cons (ev_var (i := 6) rfl) ea_nil))))))) fun why_8 =>
 (blk_seq (blk_ifL (S := Unit) (fun s_9 => [some (.im self_1), some (.im letters_2), some (.im rooms_3), some (.im start_4), some (.im ways_5), some (.im kind_6), some (.im by_7), some (.im why_8), none, none, none]) (et_test (EvW.r (ev_notN (EvW.r (ev_var (i := 7) rfl)))))
 blk_never
 (blk_fin [] (by rfl))) fun s_9 =>
 (blk_fldC N.hf_letters (enf_leaf (ev_var (i := 1) rfl)) (j := 0) rfl
 (blk_fldC N.hf_rooms (enf_leaf (ev_var (i := 2) rfl)) (j := 0) rfl
 (blk_fldC N.hf_start (enf_leaf (ev_var (i := 3) rfl)) (j := 0) rfl
 (blk_fldC N.hf_ways (enf_leaf (ev_var (i := 4) rfl)) (j := 0) rfl
 (blk_fldC N.hf_kind (enf_leaf (ev_var (i := 5) rfl)) (j := 0) rfl
 (blk_fldC N.hf_by (enf_leaf (ev_var (i := 6) rfl)) (j := 0) rfl
 (blk_fldC N.hf_goals (enf_lc (by rfl) (src_range1 (EvW.r (ev_var (i := 2) rfl))) fun room_10 st r q => ⟨_, tg_name (by decide), et_yes, enf_dK⟩) (j := 0) rfl
 (blk_last (blk_seq (blk_forL (S := Unit) [8, 9, 10] [8, 9, 10] (fun s_11 => [some (.im self_1), some (.im letters_2), some (.im rooms_3), some (.im start_4), some (.im ways_5), some (.im kind_6), some (.im by_7), some (.im why_8), none, none, none]) (by rfl) (src_it (ev_var (i := 4) rfl))
 (fun s_11 => pat3 (P := fun δ w => Blk _ _ δ w _ _) (by decide) (by decide) (by decide) fun room_12 letter_13 end_14 => (blk_last (blk_sdApp (ec_ix (ec_fld N.hf_goals (ec_loc (ev_var (i := 0) rfl))) (eq_var (i := 8) rfl)) (eq_var (i := 9) rfl) (j := 10) rfl
 (blk_fin [8, 9, 10] (by rfl)))))) fun s_11 =>
 (blk_fin [0, 1, 2, 3, 4, 5, 6, 7, 8, 9, 10] (by rfl)))))))))))))⟩⟩

noncomputable def m__law_hall_of (drawn_1 : U) : M U := fnM (.bind (.ret drawn_1) fun u_8 => un6 u_8 fun letters_2 rooms_here_3 first_4 ways_5 word_6 seen_7 => (rtO (mkM "Hall" (L7 m_Hall___init__) (consA (.ret letters_2) (consA (.ret rooms_here_3) (consA (.ret first_4) (consA (.ret ways_5) (consA (.ret word_6) (consA (.ret seen_7) nilA)))))))))
theorem w__law_hall_of {P : Program} {w : World} {K : PySem.W.Frag} {mg : Str → Option Value} {bs : Heap} (N : En w K mg) : FnOk P w K mg bs CX0 9 (He.ga K "_law_hall_of") N.fd__law_hall_of ["_law_drawn"] (spM ⟨K, He.ga K⟩ (L1 m__law_hall_of)) :=
  fn_okF N.F__law_hall_of sc__law_hall_of (ar1 fun _ => rfl) fun cv A o s H E hr => ⟨_, PSs.nox (pss_cons (ps_asg (pv 0) (pg_tup rfl (pgs_cons (pg_name (i := 1) sc__law_hall_of.nd rfl (.inl rfl)) (pgs_cons (pg_name (i := 2) sc__law_hall_of.nd rfl (.inl rfl)) (pgs_cons (pg_name (i := 3) sc__law_hall_of.nd rfl (.inl rfl)) (pgs_cons (pg_name (i := 4) sc__law_hall_of.nd rfl (.inl rfl)) (pgs_cons (pg_name (i := 5) sc__law_hall_of.nd rfl (.inl rfl)) (pgs_cons (pg_name (i := 6) sc__law_hall_of.nd rfl (.inl rfl)) pgs_nil))))))))
 (pss_one (ps_ret (pe_make N.mk_Hall (w_Hall___init__ N) (hr.mono (by decide)) (by rfl) N.g_Hall N.b_Hall___init__ .nil pass0 (pa_cons (pv 1) (pa_cons (pv 2) (pa_cons (pv 3) (pa_cons (pv 4) (pa_cons (pv 5) (pa_cons (pv 6) pa_nil)))))))))),
   fun B H0 as0 => ar1 fun drawn_1 => ⟨_, rfl,
 (blk_tg (vs := [1, 2, 3, 4, 5, 6]) (ev_var (i := 0) rfl) (pat6 (P := fun δ w => Blk _ _ δ w _ _) (by decide) (by decide) (by decide) (by decide) (by decide) (by decide) fun letters_2 rooms_here_3 first_4 ways_5 word_6 seen_7 =>
 (blk_ret (EvW.f (ev_make (c := "Hall") (ea_cons (ev_var (i := 1) rfl) (ea_cons (ev_var (i := 2) rfl) (ea_cons (ev_var (i := 3) rfl) (ea_cons (ev_var (i := 4) rfl) (ea_cons (ev_var (i := 5) rfl) (ea_cons (ev_var (i := 6) rfl) ea_nil)))))))))))⟩⟩

noncomputable def m__law_ways_from (drawn_1 room_2 : U) : M U := fnM (rtO (lcW (itW (op2 ixU (.ret drawn_1) (.ret (.int 3)))) (fun way_3 => (testW (op2 eqU (op2 ixU (.ret way_3) (.ret (.int 0))) (.ret room_2)))) fun way_3 => (tupW (consA (op2 ixU (.ret way_3) (.ret (.int 1))) (consA (op2 ixU (.ret way_3) (.ret (.int 2))) nilA)))))
theorem w__law_ways_from {P : Program} {w : World} {K : PySem.W.Frag} {mg : Str → Option Value} {bs : Heap} (N : En w K mg) : FnOk P w K mg bs CX0 1 (He.ga K "_law_ways_from") N.fd__law_ways_from ["_law_drawn", "_law_room"] (spM ⟨K, He.ga K⟩ (L2' m__law_ways_from)) :=
  fn_okF N.F__law_ways_from sc__law_ways_from (ar2 fun _ _ => rfl) fun cv A o s H E hr => ⟨_, PSs.nox (pss_one (ps_ret (pe_lc (own := [("_law_way", 2)]) (by rfl) sc__law_ways_from.nd (pi_seqK K (pe_ix (ix_seqK K) (pv 0) pe_int (fun _ _ => rfl))) (blkOk_by (own := [("_law_way", 2)]) (N := N__law_ways_from) (sc := defScope s__law_ways_from) (by decide +kernel)) (fun _ _ _ _ _ => (pg_name (i := 2) sc__law_ways_from.nd rfl (.inl rfl))) (fun _ _ _ _ _ => (pts_one (pt_cmpR (op_eqK K hr.units) (pe_ix (ix_seqK K) (pv 2) pe_int (fun _ _ => rfl)) (pv 1) (nomark _)))) (fun _ _ _ _ _ => (pe_tup (pa_cons (pe_ix (ix_seqK K) (pv 2) pe_int (fun _ _ => rfl)) (pa_cons (pe_ix (ix_seqK K) (pv 2) pe_int (fun _ _ => rfl)) pa_nil))))))),
   fun B H0 as0 => ar2 fun drawn_1 room_2 => ⟨_, rfl,
 (blk_ret (EvW.f (EvN.ew (en_lc (by rfl) (src_it (ev_op ok_ix (EvW.r (ev_var (i := 0) rfl)) (EvW.r ev_int))) fun way_3 st r q => ⟨_, tg_name (by decide), (et_test (EvW.r (ev_op ok_eq (EvW.r (ev_op ok_ix (EvW.r (ev_var (i := 2) rfl)) (EvW.r ev_int))) (EvW.r (ev_var (i := 1) rfl))))), (ev_tup (ea_cons (ev_op ok_ix (EvW.r (ev_var (i := 2) rfl)) (EvW.r ev_int)) (ea_cons (ev_op ok_ix (EvW.r (ev_var (i := 2) rfl)) (EvW.r ev_int)) ea_nil)))⟩))))⟩⟩

noncomputable def m__law_ends (drawn_1 room_2 letter_3 : U) : M U := fnM (rtO (lcW (itW (op2 ixU (.ret drawn_1) (.ret (.int 3)))) (fun way_4 => (andT (testW (op2 eqU (op2 ixU (.ret way_4) (.ret (.int 0))) (.ret room_2))) (testW (op2 eqU (op2 ixU (.ret way_4) (.ret (.int 1))) (.ret letter_3))))) fun way_4 => (op2 ixU (.ret way_4) (.ret (.int 2)))))
theorem w__law_ends {P : Program} {w : World} {K : PySem.W.Frag} {mg : Str → Option Value} {bs : Heap} (N : En w K mg) : FnOk P w K mg bs CX0 1 (He.ga K "_law_ends") N.fd__law_ends ["_law_drawn", "_law_room", "_law_letter"] (spM ⟨K, He.ga K⟩ (L3 m__law_ends)) :=
  fn_okF N.F__law_ends sc__law_ends (ar3 fun _ _ _ => rfl) fun cv A o s H E hr => ⟨_, PSs.nox (pss_one (ps_ret (pe_lc (own := [("_law_way", 3)]) (by rfl) sc__law_ends.nd (pi_seqK K (pe_ix (ix_seqK K) (pv 0) pe_int (fun _ _ => rfl))) (blkOk_by (own := [("_law_way", 3)]) (N := N__law_ends) (sc := defScope s__law_ends) (by decide +kernel)) (fun _ _ _ _ _ => (pg_name (i := 3) sc__law_ends.nd rfl (.inl rfl))) (fun _ _ _ _ _ => (pts_one (PW.pt (pw_and (pt_cmpR (op_eqK K hr.units) (pe_ix (ix_seqK K) (pv 3) pe_int (fun _ _ => rfl)) (pv 1) (nomark _)) (pw_and1 (pt_cmpR (op_eqK K hr.units) (pe_ix (ix_seqK K) (pv 3) pe_int (fun _ _ => rfl)) (pv 2) (nomark _))))))) (fun _ _ _ _ _ => (pe_ix (ix_seqK K) (pv 3) pe_int (fun _ _ => rfl)))))),
   fun B H0 as0 => ar3 fun drawn_1 room_2 letter_3 => ⟨_, rfl,
 (blk_ret (EvW.f (EvN.ew (en_lc (by rfl) (src_it (ev_op ok_ix (EvW.r (ev_var (i := 0) rfl)) (EvW.r ev_int))) fun way_4 st r q => ⟨_, tg_name (by decide), (et_and (et_test (EvW.r (ev_op ok_eq (EvW.r (ev_op ok_ix (EvW.r (ev_var (i := 3) rfl)) (EvW.r ev_int))) (EvW.r (ev_var (i := 1) rfl))))) (et_test (EvW.r (ev_op ok_eq (EvW.r (ev_op ok_ix (EvW.r (ev_var (i := 3) rfl)) (EvW.r ev_int))) (EvW.r (ev_var (i := 2) rfl)))))), (ev_op ok_ix (EvW.r (ev_var (i := 3) rfl)) (EvW.r ev_int))⟩))))⟩⟩

noncomputable def m__law_direct (drawn_1 : U) : M U := fnM (.bind (lstW nilA) fun left_2 => (seqO (S := U) (.bind (rng1W (op2 ixU (.ret drawn_1) (.ret (.int 1)))) fun us => forO (fun one_4 s_3 => (.bindS (.bind (.ret (s_3, id)) fun h => .bind (consA (lcW (rng1W (op2 ixU (.ret drawn_1) (.ret (.int 1)))) (fun other_6 => (orT (testW (op2 notInSU (.ret one_4) (op2 ixU (.ret drawn_1) (.ret (.int 5))))) (testW (op2 inSU (.ret other_6) (op2 ixU (.ret drawn_1) (.ret (.int 5))))))) fun other_6 => (tupW (consA (.ret one_4) (consA (.ret other_6) nilA)))) nilA) fun xs => .o (mutL extL h xs)) fun left_5 => (nxO left_5))) us left_2) fun s_3 => (.bind (op2 addU (op1 lenU (.ret s_3)) (.ret (.int 1))) fun many_8 => (seqO (S := U × U) (whileO (fun s_9 => (testW (op2 ltU (op1 lenU (.ret s_9.2)) (.ret s_9.1)))) (fun s_9 => (.bind (op1 lenU (.ret s_9.2)) fun many_10 => (.bind (lstW nilA) fun kept_11 => (seqO (S := U) (.bind (itW (.ret s_9.2)) fun us => forO (fun e_32 s_12 => un2 e_32 fun one_13 other_14 => (.bind (.ret (.bl true)) fun good_15 => (seqO (S := U) (.bind (itW (callM (L2' m__law_ways_from) (consA (.ret drawn_1) (consA (.ret one_13) nilA)))) fun us => forO (fun e_30 s_16 => un2 e_30 fun letter_17 end_18 => (.bind (lcW (itW (callM (L3 m__law_ends) (consA (.ret drawn_1) (consA (.ret other_14) (consA (.ret letter_17) nilA))))) (fun its_22 => (.ret true)) fun its_22 => (tupW (consA (.ret end_18) (consA (.ret its_22) nilA)))) fun some_21 => (.bind (andW (.ret s_16) (op1 anyU (lcW (itW (.ret some_21)) (fun pair_27 => (.ret true)) fun pair_27 => (op2 inSU (.ret pair_27) (.ret s_9.2))))) fun good_26 => (nxO good_26)))) us good_15) fun s_16 => (iteW (testW (.ret s_16)) (.bindS (.bind (.ret (s_12, id)) fun h => .bind (consA (tupW (consA (.ret one_13) (consA (.ret other_14) nilA))) nilA) fun xs => .o (mutL appL h xs)) fun kept_29 => (nxO kept_29)) (nxO s_12))))) us kept_11) fun s_12 => (.bind (.ret s_12) fun left_31 => (nxO (many_10, left_31))))))) (many_8, s_3)) fun s_9 => (rtO (op1 tupleU (.ret s_9.2)))))))
theorem w__law_direct {P : Program} {w : World} {K : PySem.W.Frag} {mg : Str → Option Value} {bs : Heap} (N : En w K mg) : FnOk P w K mg bs CX0 2 (He.ga K "_law_direct") N.fd__law_direct ["_law_drawn"] (spM ⟨K, He.ga K⟩ (L1 m__law_direct)) :=
  fn_okF N.F__law_direct sc__law_direct (ar1 fun _ => rfl) fun cv A o s H E hr => ⟨_, PSs.nox (pss_cons (ps_set (i := 1) sc__law_direct.nd rfl (.inr rfl) (pe_lst pa_nil))
 (pss_cons (ps_for PassesOwn.never rfl (pi_range1 (by rfl) N.m_range (pa_cons (pe_ix (ix_seqK K) (pv 0) pe_int (fun _ _ => rfl)) pa_nil)) (pg_name (i := 2) sc__law_direct.nd rfl (.inr rfl))
 (pss_one (ps_expr (pe_bm PySem.F.plainAttrs_list PySem.F.slot_list_extend PySem.F.type_list_extend mt_extend (pv 1) (pa_cons (pe_lc (own := [("_law_other", 5)]) (by rfl) sc__law_direct.nd (pi_range1 (by rfl) N.m_range (pa_cons (pe_ix (ix_seqK K) (pv 0) pe_int (fun _ _ => rfl)) pa_nil)) (blkOk_by (own := [("_law_other", 5)]) (N := N__law_direct) (sc := defScope s__law_direct) (by decide +kernel)) (fun _ _ _ _ _ => (pg_name (i := 5) sc__law_direct.nd rfl (.inl rfl))) (fun _ _ _ _ _ => (pts_one (PW.pt (pw_or (pt_cmpR (op_notInAK K (rm66 hr)) (pv 2) (pe_ix (ix_seqK K) (pv 0) pe_int (fun _ _ => rfl)) (by rfl)) (pw_or1 (pt_cmpR (op_inAK K (rm66 hr)) (pv 5) (pe_ix (ix_seqK K) (pv 0) pe_int (fun _ _ => rfl)) (by rfl))))))) (fun _ _ _ _ _ => (pe_tup (pa_cons (pv 2) (pa_cons (pv 5) pa_nil))))) pa_nil)))))
 (pss_cons (ps_set (i := 3) sc__law_direct.nd rfl (.inl rfl) (pe_op (op_addK K) (pe_callB (call_lenK K) (by rfl) N.m_len PySem.boot_len (pa_cons (pv 1) pa_nil)) pe_int))
 (pss_cons (ps_while PassesOwn.never (pt_cmpR (op_ltK K hr.units) (pe_callB (call_lenK K) (by rfl) N.m_len PySem.boot_len (pa_cons (pv 1) pa_nil)) (pv 3) (nomark _))
 (pss_cons (ps_par (i := 3) (j := 4) (by rfl) sc__law_direct.nd rfl rfl (by decide) rfl rfl (pa_cons (pe_callB (call_lenK K) (by rfl) N.m_len PySem.boot_len (pa_cons (pv 1) pa_nil)) (pa_cons (pe_lst pa_nil) pa_nil)) (by rfl))
 (pss_cons (ps_for PassesOwn.never rfl (pi_seqK K (pv 1)) (pg_tup rfl (pgs_cons (pg_name (i := 2) sc__law_direct.nd rfl (.inr rfl)) (pgs_cons (pg_name (i := 5) sc__law_direct.nd rfl (.inl rfl)) pgs_nil)))
 (pss_cons (ps_set (i := 6) sc__law_direct.nd rfl (.inl rfl) pe_bl)
 (pss_cons (ps_for PassesOwn.never rfl (pi_seqK K (pe_call (w__law_ways_from N) (hr.mono (by decide)) (by rfl) N.g__law_ways_from N.F__law_ways_from.kp N.b__law_ways_from .nil pass0 (pa_cons (pv 0) (pa_cons (pv 2) pa_nil)))) (pg_tup rfl (pgs_cons (pg_name (i := 7) sc__law_direct.nd rfl (.inl rfl)) (pgs_cons (pg_name (i := 8) sc__law_direct.nd rfl (.inr rfl)) pgs_nil)))
 (pss_cons (ps_setLc (i := 9) (own := [("_law_its", 10)]) (by rfl) sc__law_direct.nd rfl rfl (sw_true rfl rfl rfl (by decide +kernel)) (pi_seqK K (pe_call (w__law_ends N) (hr.mono (by decide)) (by rfl) N.g__law_ends N.F__law_ends.kp N.b__law_ends .nil pass0 (pa_cons (pv 0) (pa_cons (pv 5) (pa_cons (pv 7) pa_nil))))) (blkOk_by (own := [("_law_its", 10)]) (N := N__law_direct) (sc := defScope s__law_direct) (by decide +kernel)) (fun _ _ _ _ _ => (pg_name (i := 10) sc__law_direct.nd rfl (.inl rfl))) (fun _ _ _ _ _ => pts_nil) (fun _ _ _ _ _ => (pe_tup (pa_cons (pv 8) (pa_cons (pv 10) pa_nil)))))
 (pss_one (ps_set (i := 6) sc__law_direct.nd rfl (.inl rfl) (pe_and (pv 6) (pe_one (pe_callB (cr_anyK K rfl) (by rfl) N.m_any (by decide +kernel) (pa_cons (pe_lc (own := [("_law_pair", 11)]) (by rfl) sc__law_direct.nd (pi_seqK K (pv 9)) (blkOk_by (own := [("_law_pair", 11)]) (N := N__law_direct) (sc := defScope s__law_direct) (by decide +kernel)) (fun _ _ _ _ _ => (pg_name (i := 11) sc__law_direct.nd rfl (.inl rfl))) (fun _ _ _ _ _ => pts_nil) (fun _ _ _ _ _ => (pe_cmpR (op_inAK K (rm66 hr)) (pv 11) (pv 1) (by rfl)))) pa_nil))))))))
 (pss_one (ps_if (pt_val (pv 6))
 (pss_one (ps_expr (pe_bm PySem.F.plainAttrs_list PySem.F.slot_list_append PySem.F.type_list_append mt_append (pv 4) (pa_cons (pe_tup (pa_cons (pv 2) (pa_cons (pv 5) pa_nil))) pa_nil))))
 pss_nil)))))
 (pss_one (ps_set (i := 1) sc__law_direct.nd rfl (.inr rfl) (pv 4))))))
 (pss_one (ps_ret (pe_callTy (call_tupleK K) (by rfl) N.m_tuple (by decide +kernel) (pa_cons (pv 1) pa_nil)))))))),
   fun B H0 as0 => ar1 fun drawn_1 => ⟨_, rfl,
 (blk_own (i := 1) (en_lst ea_nil) fun left_2 =>
 (blk_seq (blk_forL (S := U) [2] [2] (fun s_3 => [some (.im drawn_1), some (.own (.lst .leaf) s_3), none, none, none, none, none, none, none, none, none, none]) (by rfl) (src_range1 (EvW.r (ev_op ok_ix (EvW.r (ev_var (i := 0) rfl)) (EvW.r ev_int))))
 (fun s_3 one_4 st r q => ⟨_, tg_name (by decide), (blk_last (blk_x2 (ex_mut mut_ext (eh_slot (i := 1) rfl) (ea_cons (EvN.ew (en_lc (by rfl) (src_range1 (EvW.r (ev_op ok_ix (EvW.r (ev_var (i := 0) rfl)) (EvW.r ev_int)))) fun other_6 st r q => ⟨_, tg_name (by decide), (et_or (et_test (EvW.r (ev_op ok_notIn (EvW.r (ev_var (i := 2) rfl)) (EvW.r (ev_op ok_ix (EvW.r (ev_var (i := 0) rfl)) (EvW.r ev_int)))))) (et_test (EvW.r (ev_op ok_in (EvW.r (ev_var (i := 5) rfl)) (EvW.r (ev_op ok_ix (EvW.r (ev_var (i := 0) rfl)) (EvW.r ev_int))))))), (ev_tup (ea_cons (ev_var (i := 2) rfl) (ea_cons (ev_var (i := 5) rfl) ea_nil)))⟩)) ea_nil)) fun left_5 =>
 (blk_fin [2] (by rfl))))⟩)) fun s_3 =>
 (blk_frz (i := 1) rfl (blk_set (i := 3) (ev_op ok_add (EvW.r (ev_cb1 ok_len (EvW.r (ev_var (i := 1) rfl)))) (EvW.r ev_int)) fun many_8 =>
 (blk_seq (blk_whileL (S := U × U) [4, 2, 5, 6, 7, 8, 9] (fun s_9 => [some (.im drawn_1), some (.im s_9.2), none, some (.im s_9.1), none, none, none, none, none, none, none, none]) (by rfl) (fun s_9 => (et_test (EvW.r (ev_op ok_lt (EvW.r (ev_cb1 ok_len (EvW.r (ev_var (i := 1) rfl)))) (EvW.r (ev_var (i := 3) rfl))))))
 (fun s_9 => (blk_par_WN (i0 := 3) (i1 := 4) (ev_cb1 ok_len (EvW.r (ev_var (i := 1) rfl))) (en_lst ea_nil) fun many_10 kept_11 =>
 (blk_seq (blk_forL (S := U) [2, 5, 6, 7, 8, 9] [2, 5] (fun s_12 => [some (.im drawn_1), some (.im s_9.2), none, some (.im many_10), some (.own (.lst .leaf) s_12), none, none, none, none, none, none, none]) (by rfl) (src_it (ev_var (i := 1) rfl))
 (fun s_12 => pat2 (P := fun δ w => Blk _ _ δ w _ _) (by decide) (by decide) fun one_13 other_14 => (blk_set (i := 6) ev_bl fun good_15 =>
 (blk_seq (blk_forL (S := U) [7, 8, 9] [7, 8] (fun s_16 => [some (.im drawn_1), some (.im s_9.2), some (.im one_13), some (.im many_10), some (.own (.lst .leaf) s_12), some (.im other_14), some (.im s_16), none, none, none, none, none]) (by rfl) (src_it (ev_call (ea_cons (ev_var (i := 0) rfl) (ea_cons (ev_var (i := 2) rfl) ea_nil))))
 (fun s_16 => pat2 (P := fun δ w => Blk _ _ δ w _ _) (by decide) (by decide) fun letter_17 end_18 => (blk_set (i := 9) (EvN.ew (en_lc (by rfl) (src_it (ev_call (ea_cons (ev_var (i := 0) rfl) (ea_cons (ev_var (i := 5) rfl) (ea_cons (ev_var (i := 7) rfl) ea_nil))))) fun its_22 st r q => ⟨_, tg_name (by decide), et_yes, (ev_tup (ea_cons (ev_var (i := 8) rfl) (ea_cons (ev_var (i := 10) rfl) ea_nil)))⟩)) fun some_21 =>
 (blk_last (blk_set (i := 6) (ev_and (EvW.r (ev_var (i := 6) rfl)) (ev_cb1 ok_any (EvW.r (EvN.ew (en_lc (by rfl) (src_it (ev_var (i := 9) rfl)) fun pair_27 st r q => ⟨_, tg_name (by decide), et_yes, (ev_op ok_in (EvW.r (ev_var (i := 11) rfl)) (EvW.r (ev_var (i := 1) rfl)))⟩))))) fun good_26 =>
 (blk_fin [7, 8, 9] (by rfl))))))) fun s_16 =>
 (blk_if (et_B (EvW.r (ev_var (i := 6) rfl)))
 (blk_last (blk_x2 (ex_mut mut_app (eh_slot (i := 4) rfl) (ea_cons (ev_tup (ea_cons (ev_var (i := 2) rfl) (ea_cons (ev_var (i := 5) rfl) ea_nil))) ea_nil)) fun kept_29 =>
 (blk_fin [2, 5, 6, 7, 8, 9] (by rfl))))
 (blk_fin [2, 5, 6, 7, 8, 9] (by rfl))))))) fun s_12 =>
 (blk_frz (i := 4) rfl (blk_last (blk_set (i := 1) (ev_var (i := 4) rfl) fun left_31 =>
 (blk_fin [4, 2, 5, 6, 7, 8, 9] (by rfl))))))))) fun s_9 =>
 (blk_ret (EvW.f (ev_cb1 ok_tuple (EvW.r (ev_var (i := 1) rfl))))))))))⟩⟩

noncomputable def m__law_less (drawn_1 lot_2 : U) : M U := fnM (.bind (op1 listU (.ret lot_2)) fun left_3 => (.bind (op2 addU (op1 lenU (.ret lot_2)) (.ret (.int 1))) fun many_4 => (seqO (S := U × U) (whileO (fun s_5 => (testW (op2 ltU (op1 lenU (.ret s_5.2)) (.ret s_5.1)))) (fun s_5 => (.bind (op1 lenU (.ret s_5.2)) fun many_6 => (.bind (lstW nilA) fun kept_7 => (seqO (S := U) (.bind (itW (.ret s_5.2)) fun us => forO (fun e_28 s_8 => un2 e_28 fun one_9 other_10 => (.bind (.ret (.bl true)) fun good_11 => (seqO (S := U) (.bind (itW (callM (L2' m__law_ways_from) (consA (.ret drawn_1) (consA (.ret one_9) nilA)))) fun us => forO (fun e_26 s_12 => un2 e_26 fun letter_13 end_14 => (.bind (lcW (itW (callM (L3 m__law_ends) (consA (.ret drawn_1) (consA (.ret other_10) (consA (.ret letter_13) nilA))))) (fun its_18 => (.ret true)) fun its_18 => (tupW (consA (.ret end_14) (consA (.ret its_18) nilA)))) fun some_17 => (.bind (andW (.ret s_12) (op1 anyU (lcW (itW (.ret some_17)) (fun pair_23 => (.ret true)) fun pair_23 => (op2 inSU (.ret pair_23) (.ret s_5.2))))) fun good_22 => (nxO good_22)))) us good_11) fun s_12 => (iteW (testW (.ret s_12)) (.bindS (.bind (.ret (s_8, id)) fun h => .bind (consA (tupW (consA (.ret one_9) (consA (.ret other_10) nilA))) nilA) fun xs => .o (mutL appL h xs)) fun kept_25 => (nxO kept_25)) (nxO s_8))))) us kept_7) fun s_8 => (.bind (.ret s_8) fun left_27 => (nxO (many_6, left_27))))))) (many_4, left_3)) fun s_5 => (rtO (op1 tupleU (.ret s_5.2))))))
theorem w__law_less {P : Program} {w : World} {K : PySem.W.Frag} {mg : Str → Option Value} {bs : Heap} (N : En w K mg) : FnOk P w K mg bs CX0 2 (He.ga K "_law_less") N.fd__law_less ["_law_drawn", "_law_lot"] (spM ⟨K, He.ga K⟩ (L2' m__law_less)) :=
  fn_okF N.F__law_less sc__law_less (ar2 fun _ _ => rfl) fun cv A o s H E hr => ⟨_, PSs.nox (pss_cons (ps_asg (pe_tup (pa_cons (pe_callTy (call_listK K) (by rfl) N.m_list (by decide +kernel) (pa_cons (pv 1) pa_nil)) (pa_cons (pe_op (op_addK K) (pe_callB (call_lenK K) (by rfl) N.m_len PySem.boot_len (pa_cons (pv 1) pa_nil)) pe_int) pa_nil))) (pg_tup rfl (pgs_cons (pg_name (i := 2) sc__law_less.nd rfl (.inr rfl)) (pgs_cons (pg_name (i := 3) sc__law_less.nd rfl (.inl rfl)) pgs_nil))))
 (pss_cons (ps_while PassesOwn.never (pt_cmpR (op_ltK K hr.units) (pe_callB (call_lenK K) (by rfl) N.m_len PySem.boot_len (pa_cons (pv 2) pa_nil)) (pv 3) (nomark _))
 (pss_cons (ps_par (i := 3) (j := 4) (by rfl) sc__law_less.nd rfl rfl (by decide) rfl rfl (pa_cons (pe_callB (call_lenK K) (by rfl) N.m_len PySem.boot_len (pa_cons (pv 2) pa_nil)) (pa_cons (pe_lst pa_nil) pa_nil)) (by rfl))
 (pss_cons (ps_for PassesOwn.never rfl (pi_seqK K (pv 2)) (pg_tup rfl (pgs_cons (pg_name (i := 5) sc__law_less.nd rfl (.inl rfl)) (pgs_cons (pg_name (i := 6) sc__law_less.nd rfl (.inl rfl)) pgs_nil)))
 (pss_cons (ps_set (i := 7) sc__law_less.nd rfl (.inl rfl) pe_bl)
 (pss_cons (ps_for PassesOwn.never rfl (pi_seqK K (pe_call (w__law_ways_from N) (hr.mono (by decide)) (by rfl) N.g__law_ways_from N.F__law_ways_from.kp N.b__law_ways_from .nil pass0 (pa_cons (pv 0) (pa_cons (pv 5) pa_nil)))) (pg_tup rfl (pgs_cons (pg_name (i := 8) sc__law_less.nd rfl (.inl rfl)) (pgs_cons (pg_name (i := 9) sc__law_less.nd rfl (.inr rfl)) pgs_nil)))
 (pss_cons (ps_setLc (i := 10) (own := [("_law_its", 11)]) (by rfl) sc__law_less.nd rfl rfl (sw_true rfl rfl rfl (by decide +kernel)) (pi_seqK K (pe_call (w__law_ends N) (hr.mono (by decide)) (by rfl) N.g__law_ends N.F__law_ends.kp N.b__law_ends .nil pass0 (pa_cons (pv 0) (pa_cons (pv 6) (pa_cons (pv 8) pa_nil))))) (blkOk_by (own := [("_law_its", 11)]) (N := N__law_less) (sc := defScope s__law_less) (by decide +kernel)) (fun _ _ _ _ _ => (pg_name (i := 11) sc__law_less.nd rfl (.inl rfl))) (fun _ _ _ _ _ => pts_nil) (fun _ _ _ _ _ => (pe_tup (pa_cons (pv 9) (pa_cons (pv 11) pa_nil)))))
 (pss_one (ps_set (i := 7) sc__law_less.nd rfl (.inl rfl) (pe_and (pv 7) (pe_one (pe_callB (cr_anyK K rfl) (by rfl) N.m_any (by decide +kernel) (pa_cons (pe_lc (own := [("_law_pair", 12)]) (by rfl) sc__law_less.nd (pi_seqK K (pv 10)) (blkOk_by (own := [("_law_pair", 12)]) (N := N__law_less) (sc := defScope s__law_less) (by decide +kernel)) (fun _ _ _ _ _ => (pg_name (i := 12) sc__law_less.nd rfl (.inl rfl))) (fun _ _ _ _ _ => pts_nil) (fun _ _ _ _ _ => (pe_cmpR (op_inAK K (rm66 hr)) (pv 12) (pv 2) (by rfl)))) pa_nil))))))))
 (pss_one (ps_if (pt_val (pv 7))
 (pss_one (ps_expr (pe_bm PySem.F.plainAttrs_list PySem.F.slot_list_append PySem.F.type_list_append mt_append (pv 4) (pa_cons (pe_tup (pa_cons (pv 5) (pa_cons (pv 6) pa_nil))) pa_nil))))
 pss_nil)))))
 (pss_one (ps_set (i := 2) sc__law_less.nd rfl (.inr rfl) (pv 4))))))
 (pss_one (ps_ret (pe_callTy (call_tupleK K) (by rfl) N.m_tuple (by decide +kernel) (pa_cons (pv 2) pa_nil)))))),
   fun B H0 as0 => ar2 fun drawn_1 lot_2 => ⟨_, rfl,
 (blk_tup_WW (i0 := 2) (i1 := 3) (ev_cb1 ok_list (EvW.r (ev_var (i := 1) rfl))) (ev_op ok_add (EvW.r (ev_cb1 ok_len (EvW.r (ev_var (i := 1) rfl)))) (EvW.r ev_int)) fun left_3 many_4 =>
 (blk_seq (blk_whileL (S := U × U) [4, 5, 6, 7, 8, 9, 10] (fun s_5 => [some (.im drawn_1), some (.im lot_2), some (.im s_5.2), some (.im s_5.1), none, none, none, none, none, none, none, none, none]) (by rfl) (fun s_5 => (et_test (EvW.r (ev_op ok_lt (EvW.r (ev_cb1 ok_len (EvW.r (ev_var (i := 2) rfl)))) (EvW.r (ev_var (i := 3) rfl))))))
 (fun s_5 => (blk_par_WN (i0 := 3) (i1 := 4) (ev_cb1 ok_len (EvW.r (ev_var (i := 2) rfl))) (en_lst ea_nil) fun many_6 kept_7 =>
 (blk_seq (blk_forL (S := U) [5, 6, 7, 8, 9, 10] [5, 6] (fun s_8 => [some (.im drawn_1), some (.im lot_2), some (.im s_5.2), some (.im many_6), some (.own (.lst .leaf) s_8), none, none, none, none, none, none, none, none]) (by rfl) (src_it (ev_var (i := 2) rfl))
 (fun s_8 => pat2 (P := fun δ w => Blk _ _ δ w _ _) (by decide) (by decide) fun one_9 other_10 => (blk_set (i := 7) ev_bl fun good_11 =>
 (blk_seq (blk_forL (S := U) [8, 9, 10] [8, 9] (fun s_12 => [some (.im drawn_1), some (.im lot_2), some (.im s_5.2), some (.im many_6), some (.own (.lst .leaf) s_8), some (.im one_9), some (.im other_10), some (.im s_12), none, none, none, none, none]) (by rfl) (src_it (ev_call (ea_cons (ev_var (i := 0) rfl) (ea_cons (ev_var (i := 5) rfl) ea_nil))))
 (fun s_12 => pat2 (P := fun δ w => Blk _ _ δ w _ _) (by decide) (by decide) fun letter_13 end_14 => (blk_set (i := 10) (EvN.ew (en_lc (by rfl) (src_it (ev_call (ea_cons (ev_var (i := 0) rfl) (ea_cons (ev_var (i := 6) rfl) (ea_cons (ev_var (i := 8) rfl) ea_nil))))) fun its_18 st r q => ⟨_, tg_name (by decide), et_yes, (ev_tup (ea_cons (ev_var (i := 9) rfl) (ea_cons (ev_var (i := 11) rfl) ea_nil)))⟩)) fun some_17 =>
 (blk_last (blk_set (i := 7) (ev_and (EvW.r (ev_var (i := 7) rfl)) (ev_cb1 ok_any (EvW.r (EvN.ew (en_lc (by rfl) (src_it (ev_var (i := 10) rfl)) fun pair_23 st r q => ⟨_, tg_name (by decide), et_yes, (ev_op ok_in (EvW.r (ev_var (i := 12) rfl)) (EvW.r (ev_var (i := 2) rfl)))⟩))))) fun good_22 =>
 (blk_fin [8, 9, 10] (by rfl))))))) fun s_12 =>
 (blk_if (et_B (EvW.r (ev_var (i := 7) rfl)))
 (blk_last (blk_x2 (ex_mut mut_app (eh_slot (i := 4) rfl) (ea_cons (ev_tup (ea_cons (ev_var (i := 5) rfl) (ea_cons (ev_var (i := 6) rfl) ea_nil))) ea_nil)) fun kept_25 =>
 (blk_fin [5, 6, 7, 8, 9, 10] (by rfl))))
 (blk_fin [5, 6, 7, 8, 9, 10] (by rfl))))))) fun s_8 =>
 (blk_frz (i := 4) rfl (blk_last (blk_set (i := 2) (ev_var (i := 4) rfl) fun left_27 =>
 (blk_fin [4, 5, 6, 7, 8, 9, 10] (by rfl))))))))) fun s_5 =>
 (blk_ret (EvW.f (ev_cb1 ok_tuple (EvW.r (ev_var (i := 2) rfl)))))))⟩⟩

noncomputable def m__law_deep (box_here_1 thing_2 : U) : M U := fnM (.bind (callM (L2' m__law_take) (consA (.ret box_here_1) (consA (.ret (.int 2)) nilA))) fun form_3 => (seqO (S := U) (.bind (rng1W (op2 addU (.ret (.int 1)) (callM (L2' m__law_take) (consA (.ret box_here_1) (consA (.ret (.int 16)) nilA))))) fun us => forO (fun turn_5 s_4 => (.bind (op2 ixU (lstW (consA (tupW (consA (.ret s_4) nilA)) (consA (lstW (consA (.ret s_4) nilA)) nilA))) (.ret form_3)) fun thing_6 => (nxO thing_6))) us thing_2) fun s_4 => (rtO (.ret s_4))))
theorem w__law_deep {P : Program} {w : World} {K : PySem.W.Frag} {mg : Str → Option Value} {bs : Heap} (N : En w K mg) : FnOk P w K mg bs CX0 2 (He.ga K "_law_deep") N.fd__law_deep ["_law_box_here", "_law_thing"] (spM ⟨K, He.ga K⟩ (L2' m__law_deep)) :=
  fn_okF N.F__law_deep sc__law_deep (ar2 fun _ _ => rfl) fun cv A o s H E hr => ⟨_, PSs.nox (pss_cons (ps_set (i := 2) sc__law_deep.nd rfl (.inl rfl) (pe_call (w__law_take N) (hr.mono (by decide)) (by rfl) N.g__law_take N.F__law_take.kp N.b__law_take .nil pass0 (pa_cons (pv 0) (pa_cons pe_int pa_nil))))
 (pss_cons (ps_for PassesOwn.never rfl (pi_range1 (by rfl) N.m_range (pa_cons (pe_op (op_addK K) pe_int (pe_call (w__law_take N) (hr.mono (by decide)) (by rfl) N.g__law_take N.F__law_take.kp N.b__law_take .nil pass0 (pa_cons (pv 0) (pa_cons pe_int pa_nil)))) pa_nil)) (pg_name (i := 3) sc__law_deep.nd rfl (.inl rfl))
 (pss_one (ps_set (i := 1) sc__law_deep.nd rfl (.inl rfl) (pe_ix (ix_seqK K) (pe_lst (pa_cons (pe_tup (pa_cons (pv 1) pa_nil)) (pa_cons (pe_lst (pa_cons (pv 1) pa_nil)) pa_nil))) (pv 2) (fun _ _ => rfl)))))
 (pss_one (ps_ret (pv 1))))),
   fun B H0 as0 => ar2 fun box_here_1 thing_2 => ⟨_, rfl,
 (blk_set (i := 2) (ev_call (ea_cons (ev_var (i := 0) rfl) (ea_cons ev_int ea_nil))) fun form_3 =>
 (blk_seq (blk_forL (S := U) [3] [3] (fun s_4 => [some (.im box_here_1), some (.im s_4), some (.im form_3), none]) (by rfl) (src_range1 (EvW.r (ev_op ok_add (EvW.r ev_int) (EvW.r (ev_call (ea_cons (ev_var (i := 0) rfl) (ea_cons ev_int ea_nil)))))))
 (fun s_4 turn_5 st r q => ⟨_, tg_name (by decide), (blk_last (blk_set (i := 1) (ev_op ok_ix (EvW.r (EvN.ew (en_lst (ea_cons (ev_tup (ea_cons (ev_var (i := 1) rfl) ea_nil)) (ea_cons (EvN.ew (en_lst (ea_cons (ev_var (i := 1) rfl) ea_nil))) ea_nil))))) (EvW.r (ev_var (i := 2) rfl))) fun thing_6 =>
 (blk_fin [3] (by rfl))))⟩)) fun s_4 =>
 (blk_ret (EvW.f (ev_var (i := 1) rfl)))))⟩⟩

noncomputable def m__law_bent (box_here_1 lot_2 rooms_here_3 : U) : M U := fnM (.bind (callM (L2' m__law_take) (consA (.ret box_here_1) (consA (.ret (.int 8)) nilA))) fun kind_4 => (.bind (callM (L2' m__law_take) (consA (.ret box_here_1) (consA (op2 addU (op1 lenU (.ret lot_2)) (.ret (.int 1))) nilA))) fun at_5 => (.bind (tupW (consA (callM (L2' m__law_take) (consA (.ret box_here_1) (consA (op2 addU (.ret rooms_here_3) (.ret (.int 1))) nilA))) (consA (op2 subU (callM (L2' m__law_take) (consA (.ret box_here_1) (consA (op2 addU (.ret rooms_here_3) (.ret (.int 1))) nilA))) (op1 int1U (op2 eqU (callM (L2' m__law_take) (consA (.ret box_here_1) (consA (.ret (.int 6)) nilA))) (.ret (.int 0))))) nilA))) fun pair_6 => (seqO (S := Unit) (iteW (testW (op2 ltU (.ret kind_4) (.ret (.int 2)))) (rtO (op2 addU (slW (.ret lot_2) noP (someP (.ret at_5))) (slW (.ret lot_2) (someP (op2 addU (.ret at_5) (.ret (.int 1)))) noP))) (nxO ())) fun s_7 => (seqO (S := Unit) (iteW (testW (op2 eqU (.ret kind_4) (.ret (.int 2)))) (rtO (op1 tupleU (op2 addU (op2 addU (op1 listU (slW (.ret lot_2) noP (someP (.ret at_5)))) (lstW (consA (.ret pair_6) nilA))) (op1 listU (slW (.ret lot_2) (someP (.ret at_5)) noP))))) (nxO ())) fun s_8 => (seqO (S := Unit) (iteW (testW (op2 eqU (.ret kind_4) (.ret (.int 3)))) (rtO (op2 addU (op2 addU (slW (.ret lot_2) noP (someP (.ret at_5))) (slW (.ret lot_2) (someP (.ret at_5)) (someP (op2 addU (.ret at_5) (.ret (.int 1)))))) (slW (.ret lot_2) (someP (.ret at_5)) noP))) (nxO ())) fun s_9 => (seqO (S := Unit) (iteW (testW (op2 eqU (.ret kind_4) (.ret (.int 4)))) (.bind (op2 addU (slW (.ret lot_2) (someP (op2 addU (.ret at_5) (.ret (.int 1)))) (someP (op2 addU (.ret at_5) (.ret (.int 2))))) (slW (.ret lot_2) (someP (.ret at_5)) (someP (op2 addU (.ret at_5) (.ret (.int 1)))))) fun both_11 => (rtO (op2 addU (op2 addU (slW (.ret lot_2) noP (someP (.ret at_5))) (.ret both_11)) (slW (.ret lot_2) (someP (op2 addU (.ret at_5) (.ret (.int 2)))) noP)))) (nxO ())) fun s_10 => (seqO (S := Unit) (iteW (testW (op2 eqU (.ret kind_4) (.ret (.int 5)))) (.bind (op2 ixU (lstW (consA (.ret pair_6) (consA (op1 listU (.ret pair_6)) (consA (op2 addU (.ret pair_6) (tupW (consA (.ret (.int 0)) nilA))) (consA (slW (.ret pair_6) noP (someP (.ret (.int 1)))) (consA (.ret .non) (consA (.ret (.bl true)) (consA (.ret (.int 0)) (consA (.ret (.str "")) (consA (tupW (consA (.ret (.bl true)) (consA (.ret (.int 0)) nilA))) (consA (tupW (consA (.ret (.int 0)) (consA (.ret (.str "0")) nilA))) (consA (tupW nilA) nilA)))))))))))) (callM (L2' m__law_take) (consA (.ret box_here_1) (consA (.ret (.int 11)) nilA)))) fun odd_13 => (rtO (op2 addU (op2 addU (slW (.ret lot_2) noP (someP (.ret at_5))) (tupW (consA (.ret odd_13) nilA))) (slW (.ret lot_2) (someP (op2 addU (.ret at_5) (.ret (.int 1)))) noP)))) (nxO ())) fun s_12 => (rtO (op2 ixU (lstW (consA (op1 revTU (.ret lot_2)) (consA (op2 addU (.ret lot_2) (tupW (consA (.ret pair_6) nilA))) nilA))) (op2 subU (.ret kind_4) (.ret (.int 6)))))))))))))
theorem w__law_bent {P : Program} {w : World} {K : PySem.W.Frag} {mg : Str → Option Value} {bs : Heap} (N : En w K mg) : FnOk P w K mg bs CX0 2 (He.ga K "_law_bent") N.fd__law_bent ["_law_box_here", "_law_lot", "_law_rooms_here"] (spM ⟨K, He.ga K⟩ (L3 m__law_bent)) :=
  fn_okF N.F__law_bent sc__law_bent (ar3 fun _ _ _ => rfl) fun cv A o s H E hr => ⟨_, PSs.nox (pss_cons (ps_par (i := 3) (j := 4) (by rfl) sc__law_bent.nd rfl rfl (by decide) rfl rfl (pa_cons (pe_call (w__law_take N) (hr.mono (by decide)) (by rfl) N.g__law_take N.F__law_take.kp N.b__law_take .nil pass0 (pa_cons (pv 0) (pa_cons pe_int pa_nil))) (pa_cons (pe_call (w__law_take N) (hr.mono (by decide)) (by rfl) N.g__law_take N.F__law_take.kp N.b__law_take .nil pass0 (pa_cons (pv 0) (pa_cons (pe_op (op_addK K) (pe_callB (call_lenK K) (by rfl) N.m_len PySem.boot_len (pa_cons (pv 1) pa_nil)) pe_int) pa_nil))) pa_nil)) (by rfl))
 (pss_cons (ps_set (i := 5) sc__law_bent.nd rfl (.inl rfl) (pe_tup (pa_cons (pe_call (w__law_take N) (hr.mono (by decide)) (by rfl) N.g__law_take N.F__law_take.kp N.b__law_take .nil pass0 (pa_cons (pv 0) (pa_cons (pe_op (op_addK K) (pv 2) pe_int) pa_nil))) (pa_cons (pe_op op_sub (pe_call (w__law_take N) (hr.mono (by decide)) (by rfl) N.g__law_take N.F__law_take.kp N.b__law_take .nil pass0 (pa_cons (pv 0) (pa_cons (pe_op (op_addK K) (pv 2) pe_int) pa_nil))) (pe_callTy call_int1 (by rfl) N.m_int (by decide +kernel) (pa_cons (pe_cmpR (op_eqK K hr.units) (pe_call (w__law_take N) (hr.mono (by decide)) (by rfl) N.g__law_take N.F__law_take.kp N.b__law_take .nil pass0 (pa_cons (pv 0) (pa_cons pe_int pa_nil))) pe_int (nomark _)) pa_nil))) pa_nil))))
 (pss_cons (ps_if (pt_cmpR (op_ltK K hr.units) (pv 3) pe_int (nomark _))
 (pss_one (ps_ret (pe_op (op_addK K) (pe_slice (sl_seqK K) (pv 1) po_none (po_some (pv 4))) (pe_slice (sl_seqK K) (pv 1) (po_some (pe_op (op_addK K) (pv 4) pe_int)) po_none))))
 pss_nil)
 (pss_cons (ps_if (pt_cmpR (op_eqK K hr.units) (pv 3) pe_int (nomark _))
 (pss_one (ps_ret (pe_callTy (call_tupleK K) (by rfl) N.m_tuple (by decide +kernel) (pa_cons (pe_op (op_addK K) (pe_op (op_addK K) (pe_callTy (call_listK K) (by rfl) N.m_list (by decide +kernel) (pa_cons (pe_slice (sl_seqK K) (pv 1) po_none (po_some (pv 4))) pa_nil)) (pe_lst (pa_cons (pv 5) pa_nil))) (pe_callTy (call_listK K) (by rfl) N.m_list (by decide +kernel) (pa_cons (pe_slice (sl_seqK K) (pv 1) (po_some (pv 4)) po_none) pa_nil))) pa_nil))))
 pss_nil)
 (pss_cons (ps_if (pt_cmpR (op_eqK K hr.units) (pv 3) pe_int (nomark _))
 (pss_one (ps_ret (pe_op (op_addK K) (pe_op (op_addK K) (pe_slice (sl_seqK K) (pv 1) po_none (po_some (pv 4))) (pe_slice (sl_seqK K) (pv 1) (po_some (pv 4)) (po_some (pe_op (op_addK K) (pv 4) pe_int)))) (pe_slice (sl_seqK K) (pv 1) (po_some (pv 4)) po_none))))
 pss_nil)
 (pss_cons (ps_if (pt_cmpR (op_eqK K hr.units) (pv 3) pe_int (nomark _))
 (pss_cons (ps_set (i := 6) sc__law_bent.nd rfl (.inl rfl) (pe_op (op_addK K) (pe_slice (sl_seqK K) (pv 1) (po_some (pe_op (op_addK K) (pv 4) pe_int)) (po_some (pe_op (op_addK K) (pv 4) pe_int))) (pe_slice (sl_seqK K) (pv 1) (po_some (pv 4)) (po_some (pe_op (op_addK K) (pv 4) pe_int)))))
 (pss_one (ps_ret (pe_op (op_addK K) (pe_op (op_addK K) (pe_slice (sl_seqK K) (pv 1) po_none (po_some (pv 4))) (pv 6)) (pe_slice (sl_seqK K) (pv 1) (po_some (pe_op (op_addK K) (pv 4) pe_int)) po_none)))))
 pss_nil)
 (pss_cons (ps_if (pt_cmpR (op_eqK K hr.units) (pv 3) pe_int (nomark _))
 (pss_cons (ps_set (i := 7) sc__law_bent.nd rfl (.inl rfl) (pe_ix (ix_seqK K) (pe_lst (pa_cons (pv 5) (pa_cons (pe_callTy (call_listK K) (by rfl) N.m_list (by decide +kernel) (pa_cons (pv 5) pa_nil)) (pa_cons (pe_op (op_addK K) (pv 5) (pe_tup (pa_cons pe_int pa_nil))) (pa_cons (pe_slice (sl_seqK K) (pv 5) po_none (po_some pe_int)) (pa_cons pe_non (pa_cons pe_bl (pa_cons pe_int (pa_cons pe_str (pa_cons (pe_tup (pa_cons pe_bl (pa_cons pe_int pa_nil))) (pa_cons (pe_tup (pa_cons pe_int (pa_cons pe_str pa_nil))) (pa_cons (pe_tup pa_nil) pa_nil)))))))))))) (pe_call (w__law_take N) (hr.mono (by decide)) (by rfl) N.g__law_take N.F__law_take.kp N.b__law_take .nil pass0 (pa_cons (pv 0) (pa_cons pe_int pa_nil))) (fun _ _ => rfl)))
 (pss_one (ps_ret (pe_op (op_addK K) (pe_op (op_addK K) (pe_slice (sl_seqK K) (pv 1) po_none (po_some (pv 4))) (pe_tup (pa_cons (pv 7) pa_nil))) (pe_slice (sl_seqK K) (pv 1) (po_some (pe_op (op_addK K) (pv 4) pe_int)) po_none)))))
 pss_nil)
 (pss_one (ps_ret (pe_ix (ix_seqK K) (pe_lst (pa_cons (pe_revT K (pv 1)) (pa_cons (pe_op (op_addK K) (pv 1) (pe_tup (pa_cons (pv 5) pa_nil))) pa_nil))) (pe_op op_sub (pv 3) pe_int) (fun _ _ => rfl))))))))))),
   fun B H0 as0 => ar3 fun box_here_1 lot_2 rooms_here_3 => ⟨_, rfl,
 (blk_par2 (i0 := 3) (i1 := 4) (ev_call (ea_cons (ev_var (i := 0) rfl) (ea_cons ev_int ea_nil))) (ev_call (ea_cons (ev_var (i := 0) rfl) (ea_cons (ev_op ok_add (EvW.r (ev_cb1 ok_len (EvW.r (ev_var (i := 1) rfl)))) (EvW.r ev_int)) ea_nil))) fun kind_4 at_5 =>
 (blk_set (i := 5) (ev_tup (ea_cons (ev_call (ea_cons (ev_var (i := 0) rfl) (ea_cons (ev_op ok_add (EvW.r (ev_var (i := 2) rfl)) (EvW.r ev_int)) ea_nil))) (ea_cons (ev_op ok_sub (EvW.r (ev_call (ea_cons (ev_var (i := 0) rfl) (ea_cons (ev_op ok_add (EvW.r (ev_var (i := 2) rfl)) (EvW.r ev_int)) ea_nil)))) (EvW.r (ev_cb1 (ok_int1 (fun i H Q q => .inl ⟨i, rfl, q⟩) fun b H Q q => .inr ⟨b, rfl, q⟩) (EvW.r (ev_op ok_eq (EvW.r (ev_call (ea_cons (ev_var (i := 0) rfl) (ea_cons ev_int ea_nil)))) (EvW.r ev_int)))))) ea_nil))) fun pair_6 =>
 (blk_seq (blk_ifL (S := Unit) (fun s_7 => [some (.im box_here_1), some (.im lot_2), some (.im rooms_here_3), some (.im kind_4), some (.im at_5), some (.im pair_6), none, none]) (et_test (EvW.r (ev_op ok_lt (EvW.r (ev_var (i := 3) rfl)) (EvW.r ev_int))))
 (blk_ret (EvW.f (ev_op ok_add (EvW.r (ev_sl (EvW.r (ev_var (i := 1) rfl)) eo_none (eo_some (EvW.r (ev_var (i := 4) rfl))))) (EvW.r (ev_sl (EvW.r (ev_var (i := 1) rfl)) (eo_some (EvW.r (ev_op ok_add (EvW.r (ev_var (i := 4) rfl)) (EvW.r ev_int)))) eo_none)))))
 (blk_fin [] (by rfl))) fun s_7 =>
 (blk_seq (blk_ifL (S := Unit) (fun s_8 => [some (.im box_here_1), some (.im lot_2), some (.im rooms_here_3), some (.im kind_4), some (.im at_5), some (.im pair_6), none, none]) (et_test (EvW.r (ev_op ok_eq (EvW.r (ev_var (i := 3) rfl)) (EvW.r ev_int))))
 (blk_ret (EvW.f (ev_cb1 ok_tuple (EvW.r (ev_op ok_add (EvW.r (ev_op ok_add (EvW.r (ev_cb1 ok_list (EvW.r (ev_sl (EvW.r (ev_var (i := 1) rfl)) eo_none (eo_some (EvW.r (ev_var (i := 4) rfl))))))) (EvW.r (EvN.ew (en_lst (ea_cons (ev_var (i := 5) rfl) ea_nil)))))) (EvW.r (ev_cb1 ok_list (EvW.r (ev_sl (EvW.r (ev_var (i := 1) rfl)) (eo_some (EvW.r (ev_var (i := 4) rfl))) eo_none)))))))))
 (blk_fin [] (by rfl))) fun s_8 =>
 (blk_seq (blk_ifL (S := Unit) (fun s_9 => [some (.im box_here_1), some (.im lot_2), some (.im rooms_here_3), some (.im kind_4), some (.im at_5), some (.im pair_6), none, none]) (et_test (EvW.r (ev_op ok_eq (EvW.r (ev_var (i := 3) rfl)) (EvW.r ev_int))))
 (blk_ret (EvW.f (ev_op ok_add (EvW.r (ev_op ok_add (EvW.r (ev_sl (EvW.r (ev_var (i := 1) rfl)) eo_none (eo_some (EvW.r (ev_var (i := 4) rfl))))) (EvW.r (ev_sl (EvW.r (ev_var (i := 1) rfl)) (eo_some (EvW.r (ev_var (i := 4) rfl))) (eo_some (EvW.r (ev_op ok_add (EvW.r (ev_var (i := 4) rfl)) (EvW.r ev_int)))))))) (EvW.r (ev_sl (EvW.r (ev_var (i := 1) rfl)) (eo_some (EvW.r (ev_var (i := 4) rfl))) eo_none)))))
 (blk_fin [] (by rfl))) fun s_9 =>
 (blk_seq (blk_ifL (S := Unit) (fun s_10 => [some (.im box_here_1), some (.im lot_2), some (.im rooms_here_3), some (.im kind_4), some (.im at_5), some (.im pair_6), none, none]) (et_test (EvW.r (ev_op ok_eq (EvW.r (ev_var (i := 3) rfl)) (EvW.r ev_int))))
 (blk_set (i := 6) (ev_op ok_add (EvW.r (ev_sl (EvW.r (ev_var (i := 1) rfl)) (eo_some (EvW.r (ev_op ok_add (EvW.r (ev_var (i := 4) rfl)) (EvW.r ev_int)))) (eo_some (EvW.r (ev_op ok_add (EvW.r (ev_var (i := 4) rfl)) (EvW.r ev_int)))))) (EvW.r (ev_sl (EvW.r (ev_var (i := 1) rfl)) (eo_some (EvW.r (ev_var (i := 4) rfl))) (eo_some (EvW.r (ev_op ok_add (EvW.r (ev_var (i := 4) rfl)) (EvW.r ev_int))))))) fun both_11 =>
 (blk_ret (EvW.f (ev_op ok_add (EvW.r (ev_op ok_add (EvW.r (ev_sl (EvW.r (ev_var (i := 1) rfl)) eo_none (eo_some (EvW.r (ev_var (i := 4) rfl))))) (EvW.r (ev_var (i := 6) rfl)))) (EvW.r (ev_sl (EvW.r (ev_var (i := 1) rfl)) (eo_some (EvW.r (ev_op ok_add (EvW.r (ev_var (i := 4) rfl)) (EvW.r ev_int)))) eo_none))))))
 (blk_fin [6] (by rfl))) fun s_10 =>
 (blk_seq (blk_ifL (S := Unit) (fun s_12 => [some (.im box_here_1), some (.im lot_2), some (.im rooms_here_3), some (.im kind_4), some (.im at_5), some (.im pair_6), none, none]) (et_test (EvW.r (ev_op ok_eq (EvW.r (ev_var (i := 3) rfl)) (EvW.r ev_int))))
 (blk_set (i := 7) (ev_op ok_ix (EvW.r (EvN.ew (en_lst (ea_cons (ev_var (i := 5) rfl) (ea_cons (ev_cb1 ok_list (EvW.r (ev_var (i := 5) rfl))) (ea_cons (ev_op ok_add (EvW.r (ev_var (i := 5) rfl)) (EvW.r (ev_tup (ea_cons ev_int ea_nil)))) (ea_cons (ev_sl (EvW.r (ev_var (i := 5) rfl)) eo_none (eo_some (EvW.r ev_int))) (ea_cons ev_non (ea_cons ev_bl (ea_cons ev_int (ea_cons ev_str (ea_cons (ev_tup (ea_cons ev_bl (ea_cons ev_int ea_nil))) (ea_cons (ev_tup (ea_cons ev_int (ea_cons ev_str ea_nil))) (ea_cons (ev_tup ea_nil) ea_nil)))))))))))))) (EvW.r (ev_call (ea_cons (ev_var (i := 0) rfl) (ea_cons ev_int ea_nil))))) fun odd_13 =>
 (blk_ret (EvW.f (ev_op ok_add (EvW.r (ev_op ok_add (EvW.r (ev_sl (EvW.r (ev_var (i := 1) rfl)) eo_none (eo_some (EvW.r (ev_var (i := 4) rfl))))) (EvW.r (ev_tup (ea_cons (ev_var (i := 7) rfl) ea_nil))))) (EvW.r (ev_sl (EvW.r (ev_var (i := 1) rfl)) (eo_some (EvW.r (ev_op ok_add (EvW.r (ev_var (i := 4) rfl)) (EvW.r ev_int)))) eo_none))))))
 (blk_fin [7] (by rfl))) fun s_12 =>
 (blk_ret (EvW.f (ev_op ok_ix (EvW.r (EvN.ew (en_lst (ea_cons (ev_revT (EvW.r (ev_var (i := 1) rfl))) (ea_cons (ev_op ok_add (EvW.r (ev_var (i := 1) rfl)) (EvW.r (ev_tup (ea_cons (ev_var (i := 5) rfl) ea_nil)))) ea_nil))))) (EvW.r (ev_op ok_sub (EvW.r (ev_var (i := 3) rfl)) (EvW.r ev_int)))))))))))))⟩⟩

noncomputable def m_pairs_of_ranks (ranks_1 : U) : M U := fnM (.bind (lstW nilA) fun found_2 => (seqO (S := U) (.bind (itW (op1 sortDU (lcW (itW (.ret ranks_1)) (fun one_3 => (testW (op2 eqU (op2 modU (.ret one_3) (.ret (.int 2))) (.ret (.int 0))))) fun one_3 => (.ret one_3)))) fun us => forO (fun rank_6 s_5 => (.bind (op1 tupleU (lcW (enumW (.ret ranks_1)) (fun e_13 => un2 e_13 fun room_11 one_12 => (testW (op2 gtU (.ret one_12) (.ret rank_6)))) fun e_13 => un2 e_13 fun room_11 one_12 => (.ret room_11))) fun never_10 => (.bindS (.bind (.ret (s_5, id)) fun h => .bind (consA (tupW (consA (.ret never_10) (consA (op1 tupleU (lcW (enumW (.ret ranks_1)) (fun e_17 => un2 e_17 fun room_15 one_16 => (testW (op2 eqU (.ret one_16) (.ret rank_6)))) fun e_17 => un2 e_17 fun room_15 one_16 => (.ret room_15))) nilA))) nilA) fun xs => .o (mutL appL h xs)) fun found_14 => (nxO found_14)))) us found_2) fun s_5 => (rtO (op1 tupleU (.ret s_5)))))
theorem w_pairs_of_ranks {P : Program} {w : World} {K : PySem.W.Frag} {mg : Str → Option Value} {bs : Heap} (N : En w K mg) : FnOk P w K mg bs CX0 1 (He.ga K "pairs_of_ranks") N.fd_pairs_of_ranks ["ranks"] (spM ⟨K, He.ga K⟩ (L1 m_pairs_of_ranks)) :=
  fn_okF N.F_pairs_of_ranks sc_pairs_of_ranks (ar1 fun _ => rfl) fun cv A o s H E hr => ⟨_, PSs.nox (pss_cons (ps_set (i := 1) sc_pairs_of_ranks.nd rfl (.inl rfl) (pe_lst pa_nil))
 (pss_cons (ps_for PassesOwn.never rfl (pi_seqK K (pe_callB (cr_sortSK w (by rfl)) (by rfl) N.m_sorted (by decide +kernel) (pa_cons (pe_sci (own := [("one", 4)]) (by rfl) sc_pairs_of_ranks.nd (pi_seqK K (pv 0)) (blkOk_by (own := [("one", 4)]) (N := N_pairs_of_ranks) (sc := defScope s_pairs_of_ranks) (by decide +kernel)) (fun _ _ _ _ _ => (pg_name (i := 4) sc_pairs_of_ranks.nd rfl (.inl rfl))) (fun _ _ _ _ _ => (pts_one (pt_cmpR (op_eqK K hr.units) (pe_op op_modN (pv 4) pe_int) pe_int (nomark _)))) (fun _ _ _ _ _ => (pv 4))) pa_nil))) (pg_name (i := 2) sc_pairs_of_ranks.nd rfl (.inr rfl))
 (pss_cons (ps_set (i := 3) sc_pairs_of_ranks.nd rfl (.inl rfl) (pe_callTy (call_tupleK K) (by rfl) N.m_tuple (by decide +kernel) (pa_cons (pe_lc (own := [("room", 5), ("one", 4)]) (by rfl) sc_pairs_of_ranks.nd (pi_enAK K (by rfl) N.m_enumerate (pa_cons (pv 0) pa_nil)) (blkOk_by (own := [("room", 5), ("one", 4)]) (N := N_pairs_of_ranks) (sc := defScope s_pairs_of_ranks) (by decide +kernel)) (fun _ _ _ _ _ => (pg_tupK K (n := 2) rfl (pgs_cons (pg_name (i := 5) sc_pairs_of_ranks.nd rfl (.inl rfl)) (pgs_cons (pg_name (i := 4) sc_pairs_of_ranks.nd rfl (.inl rfl)) pgs_nil)))) (fun _ _ _ _ _ => (pts_one (pt_cmpR op_gt (pv 4) (pv 2) (nomark _)))) (fun _ _ _ _ _ => (pv 5))) pa_nil)))
 (pss_one (ps_expr (pe_bm PySem.F.plainAttrs_list PySem.F.slot_list_append PySem.F.type_list_append mt_append (pv 1) (pa_cons (pe_tup (pa_cons (pv 3) (pa_cons (pe_callTy (call_tupleK K) (by rfl) N.m_tuple (by decide +kernel) (pa_cons (pe_lc (own := [("room", 5), ("one", 4)]) (by rfl) sc_pairs_of_ranks.nd (pi_enAK K (by rfl) N.m_enumerate (pa_cons (pv 0) pa_nil)) (blkOk_by (own := [("room", 5), ("one", 4)]) (N := N_pairs_of_ranks) (sc := defScope s_pairs_of_ranks) (by decide +kernel)) (fun _ _ _ _ _ => (pg_tupK K (n := 2) rfl (pgs_cons (pg_name (i := 5) sc_pairs_of_ranks.nd rfl (.inl rfl)) (pgs_cons (pg_name (i := 4) sc_pairs_of_ranks.nd rfl (.inl rfl)) pgs_nil)))) (fun _ _ _ _ _ => (pts_one (pt_cmpR (op_eqK K hr.units) (pv 4) (pv 2) (nomark _)))) (fun _ _ _ _ _ => (pv 5))) pa_nil)) pa_nil))) pa_nil))))))
 (pss_one (ps_ret (pe_callTy (call_tupleK K) (by rfl) N.m_tuple (by decide +kernel) (pa_cons (pv 1) pa_nil)))))),
   fun B H0 as0 => ar1 fun ranks_1 => ⟨_, rfl,
 (blk_own (i := 1) (en_lst ea_nil) fun found_2 =>
 (blk_seq (blk_forL (S := U) [2, 3] [2] (fun s_5 => [some (.im ranks_1), some (.own (.lst .leaf) s_5), none, none, none, none]) (by rfl) (src_it (ev_sortSc (by rfl) (src_it (ev_var (i := 0) rfl)) fun one_3 st r q => ⟨_, tg_name (by decide), (et_test (EvW.r (ev_op ok_eq (EvW.r (ev_op ok_mod (EvW.r (ev_var (i := 4) rfl)) (EvW.r ev_int))) (EvW.r ev_int)))), (ev_var (i := 4) rfl)⟩))
 (fun s_5 rank_6 st r q => ⟨_, tg_name (by decide), (blk_set (i := 3) (ev_cb1 ok_tuple (EvW.r (EvN.ew (en_lc (by rfl) (src_enum (ev_var (i := 0) rfl)) (lcp2 (i := 5) (j := 4) (vs := [5, 4]) (by decide) (by decide) fun room_11 one_12 => ⟨(et_test (EvW.r (ev_op ok_gt (EvW.r (ev_var (i := 4) rfl)) (EvW.r (ev_var (i := 2) rfl))))), (ev_var (i := 5) rfl)⟩))))) fun never_10 =>
 (blk_last (blk_x2 (ex_mut mut_app (eh_slot (i := 1) rfl) (ea_cons (ev_tup (ea_cons (ev_var (i := 3) rfl) (ea_cons (ev_cb1 ok_tuple (EvW.r (EvN.ew (en_lc (by rfl) (src_enum (ev_var (i := 0) rfl)) (lcp2 (i := 5) (j := 4) (vs := [5, 4]) (by decide) (by decide) fun room_15 one_16 => ⟨(et_test (EvW.r (ev_op ok_eq (EvW.r (ev_var (i := 4) rfl)) (EvW.r (ev_var (i := 2) rfl))))), (ev_var (i := 5) rfl)⟩))))) ea_nil))) ea_nil)) fun found_14 =>
 (blk_fin [2, 3] (by rfl)))))⟩)) fun s_5 =>
 (blk_ret (EvW.f (ev_cb1 ok_tuple (ev_ownL (i := 1) rfl))))))⟩⟩

noncomputable def m_pairs_of (hall_1 : U) : M U := fnM (seqO (S := Unit) (iteW (testW (op2 eqU (op1 (fldU ["Hall"] "kind") (.ret hall_1)) (.ret (.str "pairs")))) (rtO (op1 (fldU ["Hall"] "by") (.ret hall_1))) (nxO ())) fun s_2 => (seqO (S := Unit) (iteW (testW (op2 eqU (op1 (fldU ["Hall"] "kind") (.ret hall_1)) (.ret (.str "ranks")))) (rtO (callM (L1 m_pairs_of_ranks) (consA (op1 (fldU ["Hall"] "by") (.ret hall_1)) nilA))) (nxO ())) fun s_3 => (seqO (S := Unit) (iteW (testW (op2 eqU (op1 (fldU ["Hall"] "kind") (.ret hall_1)) (.ret (.str "again")))) (rtO (tupW (consA (tupW (consA (tupW nilA) (consA (op1 (fldU ["Hall"] "by") (.ret hall_1)) nilA))) nilA))) (nxO ())) fun s_4 => (.bind (tupRW (rng1W (op1 (fldU ["Hall"] "rooms") (.ret hall_1)))) fun rooms_5 => (rtO (tupW (consA (tupW (consA (op1 tupleU (lcW (itW (.ret rooms_5)) (fun room_6 => (testW (op2 notInSU (.ret room_6) (op1 (fldU ["Hall"] "by") (.ret hall_1))))) fun room_6 => (.ret room_6))) (consA (.ret rooms_5) nilA))) nilA)))))))
theorem w_pairs_of {P : Program} {w : World} {K : PySem.W.Frag} {mg : Str → Option Value} {bs : Heap} (N : En w K mg) : FnOk P w K mg bs CX0 2 (He.ga K "pairs_of") N.fd_pairs_of ["hall"] (spM ⟨K, He.ga K⟩ (L1 m_pairs_of)) :=
  fn_okF N.F_pairs_of sc_pairs_of (ar1 fun _ => rfl) fun cv A o s H E hr => ⟨_, PSs.nox (pss_cons (ps_if (pt_cmpR (op_eqK K hr.units) (pe_fldK K (pv 0) rfl) pe_str (nomark _))
 (pss_one (ps_ret (pe_fldK K (pv 0) rfl)))
 pss_nil)
 (pss_cons (ps_if (pt_cmpR (op_eqK K hr.units) (pe_fldK K (pv 0) rfl) pe_str (nomark _))
 (pss_one (ps_ret (pe_call (w_pairs_of_ranks N) (hr.mono (by decide)) (by rfl) N.g_pairs_of_ranks N.F_pairs_of_ranks.kp N.b_pairs_of_ranks .nil pass0 (pa_cons (pe_fldK K (pv 0) rfl) pa_nil))))
 pss_nil)
 (pss_cons (ps_if (pt_cmpR (op_eqK K hr.units) (pe_fldK K (pv 0) rfl) pe_str (nomark _))
 (pss_one (ps_ret (pe_tup (pa_cons (pe_tup (pa_cons (pe_tup pa_nil) (pa_cons (pe_fldK K (pv 0) rfl) pa_nil))) pa_nil))))
 pss_nil)
 (pss_cons (ps_set (i := 1) sc_pairs_of.nd rfl (.inl rfl) (pe_tupRg (by rfl) (by rfl) N.m_tuple (prg_1 (by rfl) N.m_range (pe_fldK K (pv 0) rfl))))
 (pss_one (ps_ret (pe_tup (pa_cons (pe_tup (pa_cons (pe_callTy (call_tupleK K) (by rfl) N.m_tuple (by decide +kernel) (pa_cons (pe_lc (own := [("room", 2)]) (by rfl) sc_pairs_of.nd (pi_seqK K (pv 1)) (blkOk_by (own := [("room", 2)]) (N := N_pairs_of) (sc := defScope s_pairs_of) (by decide +kernel)) (fun _ _ _ _ _ => (pg_name (i := 2) sc_pairs_of.nd rfl (.inl rfl))) (fun _ _ _ _ _ => (pts_one (pt_cmpR (op_notInAK K (rm66 hr)) (pv 2) (pe_fldK K (pv 0) rfl) (by rfl)))) (fun _ _ _ _ _ => (pv 2))) pa_nil)) (pa_cons (pv 1) pa_nil))) pa_nil)))))))),
   fun B H0 as0 => ar1 fun hall_1 => ⟨_, rfl,
 (blk_seq (blk_ifL (S := Unit) (fun s_2 => [some (.im hall_1), none, none]) (et_test (EvW.r (ev_op ok_eq (EvW.r (ev_fld N.hf_kind (EvW.r (ev_var (i := 0) rfl)))) (EvW.r ev_str))))
 (blk_ret (EvW.f (ev_fld N.hf_by (EvW.r (ev_var (i := 0) rfl)))))
 (blk_fin [] (by rfl))) fun s_2 =>
 (blk_seq (blk_ifL (S := Unit) (fun s_3 => [some (.im hall_1), none, none]) (et_test (EvW.r (ev_op ok_eq (EvW.r (ev_fld N.hf_kind (EvW.r (ev_var (i := 0) rfl)))) (EvW.r ev_str))))
 (blk_ret (EvW.f (ev_call (ea_cons (ev_fld N.hf_by (EvW.r (ev_var (i := 0) rfl))) ea_nil))))
 (blk_fin [] (by rfl))) fun s_3 =>
 (blk_seq (blk_ifL (S := Unit) (fun s_4 => [some (.im hall_1), none, none]) (et_test (EvW.r (ev_op ok_eq (EvW.r (ev_fld N.hf_kind (EvW.r (ev_var (i := 0) rfl)))) (EvW.r ev_str))))
 (blk_ret (ef_tup (eaf_cons (ef_tup (eaf_cons (ef_tup eaf_nil) (eaf_cons (EvW.f (ev_fld N.hf_by (EvW.r (ev_var (i := 0) rfl)))) eaf_nil))) eaf_nil)))
 (blk_fin [] (by rfl))) fun s_4 =>
 (blk_set (i := 1) (ev_tupRg (eg_1 (EvW.r (ev_fld N.hf_rooms (EvW.r (ev_var (i := 0) rfl)))))) fun rooms_5 =>
 (blk_ret (ef_tup (eaf_cons (ef_tup (eaf_cons (EvW.f (ev_cb1 ok_tuple (EvW.r (EvN.ew (en_lc (by rfl) (src_it (ev_var (i := 1) rfl)) fun room_6 st r q => ⟨_, tg_name (by decide), (et_test (EvW.r (ev_op ok_notIn (EvW.r (ev_var (i := 2) rfl)) (EvW.r (ev_fld N.hf_by (EvW.r (ev_var (i := 0) rfl))))))), (ev_var (i := 2) rfl)⟩))))) (eaf_cons (EvW.f (ev_var (i := 1) rfl)) eaf_nil))) eaf_nil)))))))⟩⟩

noncomputable def m_copied_rooms (hall_1 pairs_2 : U) : M U := fnM (.bind (dcW true (rng1W (op1 (fldU ["Hall"] "rooms") (.ret hall_1))) (fun room_3 => (.ret true)) (fun room_3 => (tupW (consA (.ret (.int 0)) (consA (.ret room_3) nilA)))) fun room_3 => (.ret room_3)) fun numbers_4 => (seqO (S := U) (.bind (enumW (.ret pairs_2)) fun us => forO (fun e_16 s_5 => unN e_16 fun at_6 never_7 often_8 => (.bind (dcW false (itW (.ret never_7)) (fun room_11 => (.ret true)) (fun room_11 => (.ret room_11)) fun room_11 => (.ret (.bl true))) fun barred_10 => (seqO (S := U) (.bind (rng1W (op1 (fldU ["Hall"] "rooms") (.ret hall_1))) fun us => forO (fun room_13 s_12 => (iteW (testW (op2 notInU (.ret room_13) (.ret barred_10))) (.bind (op1 lenTU (.ret s_12)) fun x => .bind (tupW (consA (op2 addU (.ret at_6) (.ret (.int 1))) (consA (.ret room_13) nilA))) fun y => .bind (.o (putU s_12 y x)) fun numbers_14 => (nxO numbers_14)) (nxO s_12))) us s_5) fun s_12 => (nxO s_12)))) us numbers_4) fun s_5 => (rtO (.ret s_5))))
theorem w_copied_rooms {P : Program} {w : World} {K : PySem.W.Frag} {mg : Str → Option Value} {bs : Heap} (N : En w K mg) : FnOk P w K mg bs CX0 1 (He.ga K "copied_rooms") N.fd_copied_rooms ["hall", "pairs"] (spM ⟨K, He.ga K⟩ (L2' m_copied_rooms)) :=
  fn_okF N.F_copied_rooms sc_copied_rooms (ar2 fun _ _ => rfl) fun cv A o s H E hr => ⟨_, PSs.nox (pss_cons (ps_setDcG (i := 2) true (hu_of hr) (own := [("room", 7)]) (by rfl) sc_copied_rooms.nd rfl rfl (sw_trueD rfl rfl rfl (by decide +kernel)) (pi_range1 (by rfl) N.m_range (pa_cons (pe_fldK K (pv 0) rfl) pa_nil)) (blkOk_by (own := [("room", 7)]) (N := N_copied_rooms) (sc := defScope s_copied_rooms) (by decide +kernel)) (fun _ _ _ _ _ => (pg_name (i := 7) sc_copied_rooms.nd rfl (.inl rfl))) (fun _ _ _ _ _ => pts_nil) (fun _ _ _ _ _ => (pe_tup (pa_cons pe_int (pa_cons (pv 7) pa_nil)))) (fun _ _ _ _ _ => (pv 7)))
 (pss_cons (ps_for PassesOwn.never rfl (pi_enAK K (by rfl) N.m_enumerate (pa_cons (pv 1) pa_nil)) (pg_tup rfl (pgs_cons (pg_name (i := 3) sc_copied_rooms.nd rfl (.inl rfl)) (pgs_cons (pg_tup rfl (pgs_cons (pg_name (i := 4) sc_copied_rooms.nd rfl (.inl rfl)) (pgs_cons (pg_name (i := 5) sc_copied_rooms.nd rfl (.inl rfl)) pgs_nil))) pgs_nil)))
 (pss_cons (ps_setDcG (i := 6) false (hu_of hr) (own := [("room", 7)]) (by rfl) sc_copied_rooms.nd rfl rfl (sw_trueD rfl rfl rfl (by decide +kernel)) (pi_seqK K (pv 4)) (blkOk_by (own := [("room", 7)]) (N := N_copied_rooms) (sc := defScope s_copied_rooms) (by decide +kernel)) (fun _ _ _ _ _ => (pg_name (i := 7) sc_copied_rooms.nd rfl (.inl rfl))) (fun _ _ _ _ _ => pts_nil) (fun _ _ _ _ _ => (pv 7)) (fun _ _ _ _ _ => pe_bl))
 (pss_one (ps_for PassesOwn.never rfl (pi_range1 (by rfl) N.m_range (pa_cons (pe_fldK K (pv 0) rfl) pa_nil)) (pg_name (i := 7) sc_copied_rooms.nd rfl (.inl rfl))
 (pss_one (ps_if (pt_cmp (pc_dnotin (hu_of hr) (pv 7) (pv 6)))
 (pss_one (ps_dput (hu_of hr) (pv 2) (pe_tup (pa_cons (pe_op (op_addK K) (pv 3) pe_int) (pa_cons (pv 7) pa_nil))) (pe_callB call_lenTR (by rfl) N.m_len (by decide +kernel) (pa_cons (pv 2) pa_nil)) rfl))
 pss_nil))))))
 (pss_one (ps_ret (pv 2))))),
   fun B H0 as0 => ar2 fun hall_1 pairs_2 => ⟨_, rfl,
 (blk_own (i := 2) (en_dc (by rfl) (src_range1 (EvW.r (ev_fld N.hf_rooms (EvW.r (ev_var (i := 0) rfl))))) fun room_3 st r q => ⟨_, tg_name (by decide), et_yes, (ev_tup (ea_cons ev_int (ea_cons (ev_var (i := 7) rfl) ea_nil))), (ev_var (i := 7) rfl)⟩) fun numbers_4 =>
 (blk_seq (blk_forL (S := U) [3, 4, 5, 6, 7] [3, 4, 5] (fun s_5 => [some (.im hall_1), some (.im pairs_2), some (.own (.dct .leaf) s_5), none, none, none, none, none]) (by rfl) (src_enum (ev_var (i := 1) rfl))
 (fun s_5 => patN (P := fun δ w => Blk _ _ δ w _ _) (by decide) (by decide) (by decide) fun at_6 never_7 often_8 => (blk_set (i := 6) (EvN.ew (en_dc (by rfl) (src_it (ev_var (i := 4) rfl)) fun room_11 st r q => ⟨_, tg_name (by decide), et_yes, (ev_var (i := 7) rfl), ev_bl⟩)) fun barred_10 =>
 (blk_last (blk_seq (blk_forL (S := U) [7] [7] (fun s_12 => [some (.im hall_1), some (.im pairs_2), some (.own (.dct .leaf) s_12), some (.im at_6), some (.im never_7), some (.im often_8), some (.im barred_10), none]) (by rfl) (src_range1 (EvW.r (ev_fld N.hf_rooms (EvW.r (ev_var (i := 0) rfl)))))
 (fun s_12 room_13 st r q => ⟨_, tg_name (by decide), (blk_if (et_B (EvW.r (ev_dnotin (EvW.r (ev_var (i := 7) rfl)) (EvW.r (ev_var (i := 6) rfl)))))
 (blk_last (blk_dput (i := 2) rfl (ev_cb1 ok_lenT (ev_ownD (i := 2) rfl)) (ev_tup (ea_cons (ev_op ok_add (EvW.r (ev_var (i := 3) rfl)) (EvW.r ev_int)) (ea_cons (ev_var (i := 7) rfl) ea_nil))) fun numbers_14 =>
 (blk_fin [7] (by rfl))))
 (blk_fin [7] (by rfl)))⟩)) fun s_12 =>
 (blk_fin [3, 4, 5, 6, 7] (by rfl))))))) fun s_5 =>
 (blk_ret (ef_own (i := 2) rfl))))⟩⟩

noncomputable def m_copied_ways (hall_1 numbers_2 many_3 : U) : M U := fnM (.bind (op2 addU (lstW (consA (tupW (consA (.ret (.int 0)) (consA (.ret (.int 0)) nilA))) nilA)) (lc2W (rng2W (.ret (.int 1)) (op2 addU (.ret many_3) (.ret (.int 1)))) (fun at_8 => (.ret true)) (fun at_8 => (itW (tupW (consA (.ret (.int 0)) (consA (.ret at_8) nilA))))) (fun at_8 here_10 => (.ret true)) fun at_8 here_10 => (tupW (consA (.ret here_10) (consA (.ret at_8) nilA))))) fun turns_7 => (.bind (lc2W (itW (op1 (fldU ["Hall"] "ways") (.ret hall_1))) (fun e_26 => un3 e_26 fun room_20 letter_21 end_22 => (.ret true)) (fun e_26 => un3 e_26 fun room_20 letter_21 end_22 => (itW (.ret turns_7))) (fun e_26 e_27 => un3 e_26 fun room_20 letter_21 end_22 => un2 e_27 fun here_24 there_25 => (andT (testW (op2 inU (tupW (consA (.ret here_24) (consA (.ret room_20) nilA))) (.ret numbers_2))) (testW (op2 inU (tupW (consA (.ret there_25) (consA (.ret end_22) nilA))) (.ret numbers_2))))) fun e_26 e_27 => un3 e_26 fun room_20 letter_21 end_22 => un2 e_27 fun here_24 there_25 => (tupW (consA (op2 itemU (.ret numbers_2) (tupW (consA (.ret here_24) (consA (.ret room_20) nilA)))) (consA (.ret letter_21) (consA (op2 itemU (.ret numbers_2) (tupW (consA (.ret there_25) (consA (.ret end_22) nilA)))) nilA))))) fun found_19 => (rtO (op1 tupleU (op1 sortTUL (.ret found_19))))))
theorem w_copied_ways {P : Program} {w : World} {K : PySem.W.Frag} {mg : Str → Option Value} {bs : Heap} (N : En w K mg) : FnOk P w K mg bs CX0 1 (He.ga K "copied_ways") N.fd_copied_ways ["hall", "numbers", "many"] (spM ⟨K, He.ga K⟩ (L3 m_copied_ways)) :=
  fn_okF N.F_copied_ways sc_copied_ways (ar3 fun _ _ _ => rfl) fun cv A o s H E hr => ⟨_, PSs.nox (pss_cons (ps_set (i := 3) sc_copied_ways.nd rfl (.inr rfl) (pe_op (op_addK K) (pe_lst (pa_cons (pe_tup (pa_cons pe_int (pa_cons pe_int pa_nil))) pa_nil)) (pe_lc2 (own := [("at", 5), ("here", 6)]) (vs1 := [6]) (by rfl) sc_copied_ways.nd (pi_range2 (by rfl) N.m_range (pa_cons pe_int (pa_cons (pe_op (op_addK K) (pv 2) pe_int) pa_nil))) (blkOk_by (own := [("at", 5), ("here", 6)]) (N := N_copied_ways) (sc := defScope s_copied_ways) (by decide +kernel)) (by decide) (fun _ _ _ _ _ => (pg_name (i := 5) sc_copied_ways.nd rfl (.inl rfl))) (fun _ _ _ _ _ => pts_nil) (fun _ _ _ _ _ => (pi_seqK K (pe_tup (pa_cons pe_int (pa_cons (pv 5) pa_nil))))) (fun _ _ _ _ _ => (pg_name (i := 6) sc_copied_ways.nd rfl (.inl rfl))) (fun _ _ _ _ _ => pts_nil) (fun _ _ _ _ _ => (pe_tup (pa_cons (pv 6) (pa_cons (pv 5) pa_nil)))))))
 (pss_cons (ps_setLc2 (i := 4) (own := [("room", 7), ("letter", 8), ("end", 9), ("here", 6), ("there", 10)]) (vs1 := [6, 10]) (by rfl) sc_copied_ways.nd rfl rfl (sw_true rfl rfl rfl (by decide +kernel)) (pi_seqK K (pe_fldK K (pv 0) rfl)) (blkOk_by (own := [("room", 7), ("letter", 8), ("end", 9), ("here", 6), ("there", 10)]) (N := N_copied_ways) (sc := defScope s_copied_ways) (by decide +kernel)) (by decide) (fun _ _ _ _ _ => (pg_tupK K (n := 3) rfl (pgs_cons (pg_name (i := 7) sc_copied_ways.nd rfl (.inl rfl)) (pgs_cons (pg_name (i := 8) sc_copied_ways.nd rfl (.inl rfl)) (pgs_cons (pg_name (i := 9) sc_copied_ways.nd rfl (.inl rfl)) pgs_nil))))) (fun _ _ _ _ _ => pts_nil) (fun _ _ _ _ _ => (pi_seqK K (pv 3))) (fun _ _ _ _ _ => (pg_tupK K (n := 2) rfl (pgs_cons (pg_name (i := 6) sc_copied_ways.nd rfl (.inl rfl)) (pgs_cons (pg_name (i := 10) sc_copied_ways.nd rfl (.inl rfl)) pgs_nil)))) (fun _ _ _ _ _ => (pts_one (PW.pt (pw_and (pt_cmp (pc_din (hu_of hr) (pe_tup (pa_cons (pv 6) (pa_cons (pv 7) pa_nil))) (pv 1))) (pw_and1 (pt_cmp (pc_din (hu_of hr) (pe_tup (pa_cons (pv 10) (pa_cons (pv 9) pa_nil))) (pv 1)))))))) (fun _ _ _ _ _ => (pe_tup (pa_cons (pe_dget (hu_of hr) (pv 1) (pe_tup (pa_cons (pv 6) (pa_cons (pv 7) pa_nil))) (fun _ _ => rfl)) (pa_cons (pv 8) (pa_cons (pe_dget (hu_of hr) (pv 1) (pe_tup (pa_cons (pv 10) (pa_cons (pv 9) pa_nil))) (fun _ _ => rfl)) pa_nil))))))
 (pss_one (ps_ret (pe_callTy (call_tupleK K) (by rfl) N.m_tuple (by decide +kernel) (pa_cons (pe_callB (cr_sortAnyO K) (by rfl) N.m_sorted (by decide +kernel) (pa_cons (pv 4) pa_nil)) pa_nil)))))),
   fun B H0 as0 => ar3 fun hall_1 numbers_2 many_3 => ⟨_, rfl,
 (blk_set (i := 3) (ev_op ok_add (EvW.r (EvN.ew (en_lst (ea_cons (ev_tup (ea_cons ev_int (ea_cons ev_int ea_nil))) ea_nil)))) (EvW.r (EvN.ew (en_lc2 (by rfl) (by decide) (src_range2 (EvW.r ev_int) (EvW.r (ev_op ok_add (EvW.r (ev_var (i := 2) rfl)) (EvW.r ev_int)))) fun at_8 st r q => ⟨_, tg_name (by decide), et_yes, (src_it (ev_tup (ea_cons ev_int (ea_cons (ev_var (i := 5) rfl) ea_nil)))), fun here_10 st r q => ⟨_, tg_name (by decide), et_yes, (ev_tup (ea_cons (ev_var (i := 6) rfl) (ea_cons (ev_var (i := 5) rfl) ea_nil)))⟩⟩)))) fun turns_7 =>
 (blk_set (i := 4) (EvN.ew (en_lc2 (by rfl) (by decide) (src_it (ev_fld N.hf_ways (EvW.r (ev_var (i := 0) rfl)))) fun e_26 st r q => by
 obtain ⟨room_20, letter_21, end_22, rfl⟩ := un3_inv q
 exact ⟨[some (.im hall_1), some (.im numbers_2), some (.im many_3), some (.im turns_7), none, none, none, some (.im room_20), some (.im letter_21), some (.im end_22), none], TgOk.to (tg_three (by decide) (by decide) (by decide)) (by rfl), et_yes, (src_it (ev_var (i := 3) rfl)), fun e_27 st r q => by
 obtain ⟨here_24, there_25, rfl⟩ := un2_inv (show un2 e_27 _ _ = some _ from q)
 exact ⟨[some (.im hall_1), some (.im numbers_2), some (.im many_3), some (.im turns_7), none, none, some (.im here_24), some (.im room_20), some (.im letter_21), some (.im end_22), some (.im there_25)], TgOk.to (tg_two (by decide) (by decide)) (by rfl), (et_and (et_B (EvW.r (ev_din (EvW.r (ev_tup (ea_cons (ev_var (i := 6) rfl) (ea_cons (ev_var (i := 7) rfl) ea_nil)))) (EvW.r (ev_var (i := 1) rfl))))) (et_B (EvW.r (ev_din (EvW.r (ev_tup (ea_cons (ev_var (i := 10) rfl) (ea_cons (ev_var (i := 9) rfl) ea_nil)))) (EvW.r (ev_var (i := 1) rfl)))))), (ev_tup (ea_cons (ev_ditem (EvW.r (ev_var (i := 1) rfl)) (EvW.r (ev_tup (ea_cons (ev_var (i := 6) rfl) (ea_cons (ev_var (i := 7) rfl) ea_nil))))) (ea_cons (ev_var (i := 8) rfl) (ea_cons (ev_ditem (EvW.r (ev_var (i := 1) rfl)) (EvW.r (ev_tup (ea_cons (ev_var (i := 10) rfl) (ea_cons (ev_var (i := 9) rfl) ea_nil))))) ea_nil))))⟩⟩)) fun found_19 =>
 (blk_ret (EvW.f (ev_cb1 ok_tuple (EvW.r (ev_cb1 ok_sortL (EvW.r (ev_var (i := 4) rfl)))))))))⟩⟩

noncomputable def m_as_again (hall_1 : U) : M U := fnM (seqO (S := Unit) (iteW (testW (op2 eqU (op1 (fldU ["Hall"] "kind") (.ret hall_1)) (.ret (.str "again")))) (rtO (.ret hall_1)) (nxO ())) fun s_2 => (.bind (callM (L1 m_pairs_of) (consA (.ret hall_1) nilA)) fun pairs_3 => (.bind (callM (L2' m_copied_rooms) (consA (.ret hall_1) (consA (.ret pairs_3) nilA))) fun numbers_4 => (.bind (lc2W (enumW (.ret pairs_3)) (fun e_18 => unN e_18 fun at_13 never_14 often_15 => (.ret true)) (fun e_18 => unN e_18 fun at_13 never_14 often_15 => (itW (.ret often_15))) (fun e_18 room_17 => unN e_18 fun at_13 never_14 often_15 => (.ret true)) fun e_18 room_17 => unN e_18 fun at_13 never_14 often_15 => (tupW (consA (op2 addU (.ret at_13) (.ret (.int 1))) (consA (.ret room_17) nilA)))) fun spots_12 => (.bind (op1 sortNU (lcW (itW (.ret spots_12)) (fun spot_23 => (testW (op2 inU (.ret spot_23) (.ret numbers_4)))) fun spot_23 => (op2 itemU (.ret numbers_4) (.ret spot_23)))) fun marks_22 => (.bind (callM (L3 m_copied_ways) (consA (.ret hall_1) (consA (.ret numbers_4) (consA (op1 lenU (.ret pairs_3)) nilA)))) fun ways_25 => (rtO (mkM "Hall" (L7 m_Hall___init__) (consA (op1 (fldU ["Hall"] "letters") (.ret hall_1)) (consA (op1 lenTU (.ret numbers_4)) (consA (op1 (fldU ["Hall"] "start") (.ret hall_1)) (consA (.ret ways_25) (consA (.ret (.str "again")) (consA (op1 tupleU (.ret marks_22)) nilA))))))))))))))
theorem w_as_again {P : Program} {w : World} {K : PySem.W.Frag} {mg : Str → Option Value} {bs : Heap} (N : En w K mg) : FnOk P w K mg bs CX0 9 (He.ga K "as_again") N.fd_as_again ["hall"] (spM ⟨K, He.ga K⟩ (L1 m_as_again)) :=
  fn_okF N.F_as_again sc_as_again (ar1 fun _ => rfl) fun cv A o s H E hr => ⟨_, PSs.nox (pss_cons (ps_if (pt_cmpR (op_eqK K hr.units) (pe_fldK K (pv 0) rfl) (pe_glob (v := .str "again") rfl N.k_AGAIN ⟨_, rfl⟩) (nomark _))
 (pss_one (ps_ret (pv 0)))
 pss_nil)
 (pss_cons (ps_set (i := 1) sc_as_again.nd rfl (.inl rfl) (pe_call (w_pairs_of N) (hr.mono (by decide)) (by rfl) N.g_pairs_of N.F_pairs_of.kp N.b_pairs_of .nil pass0 (pa_cons (pv 0) pa_nil)))
 (pss_cons (ps_set (i := 2) sc_as_again.nd rfl (.inr rfl) (pe_call (w_copied_rooms N) (hr.mono (by decide)) (by rfl) N.g_copied_rooms N.F_copied_rooms.kp N.b_copied_rooms .nil pass0 (pa_cons (pv 0) (pa_cons (pv 1) pa_nil))))
 (pss_cons (ps_setLc2 (i := 3) (own := [("at", 6), ("never", 7), ("often", 8), ("room", 9)]) (vs1 := [9]) (by rfl) sc_as_again.nd rfl rfl (sw_true rfl rfl rfl (by decide +kernel)) (pi_enAK K (by rfl) N.m_enumerate (pa_cons (pv 1) pa_nil)) (blkOk_by (own := [("at", 6), ("never", 7), ("often", 8), ("room", 9)]) (N := N_as_again) (sc := defScope s_as_again) (by decide +kernel)) (by decide) (fun _ _ _ _ _ => (pg_tupK K (n := 2) rfl (pgs_cons (pg_name (i := 6) sc_as_again.nd rfl (.inl rfl)) (pgs_cons (pg_tupK K (n := 2) rfl (pgs_cons (pg_name (i := 7) sc_as_again.nd rfl (.inl rfl)) (pgs_cons (pg_name (i := 8) sc_as_again.nd rfl (.inl rfl)) pgs_nil))) pgs_nil)))) (fun _ _ _ _ _ => pts_nil) (fun _ _ _ _ _ => (pi_seqK K (pv 8))) (fun _ _ _ _ _ => (pg_name (i := 9) sc_as_again.nd rfl (.inl rfl))) (fun _ _ _ _ _ => pts_nil) (fun _ _ _ _ _ => (pe_tup (pa_cons (pe_op (op_addK K) (pv 6) pe_int) (pa_cons (pv 9) pa_nil)))))
 (pss_cons (ps_set (i := 4) sc_as_again.nd rfl (.inl rfl) (pe_callB (cr_sortNK K) (by rfl) N.m_sorted (by decide +kernel) (pa_cons (pe_lc (own := [("spot", 10)]) (by rfl) sc_as_again.nd (pi_seqK K (pv 3)) (blkOk_by (own := [("spot", 10)]) (N := N_as_again) (sc := defScope s_as_again) (by decide +kernel)) (fun _ _ _ _ _ => (pg_name (i := 10) sc_as_again.nd rfl (.inl rfl))) (fun _ _ _ _ _ => (pts_one (pt_cmp (pc_din (hu_of hr) (pv 10) (pv 2))))) (fun _ _ _ _ _ => (pe_dget (hu_of hr) (pv 2) (pv 10) (fun _ _ => rfl)))) pa_nil)))
 (pss_cons (ps_set (i := 5) sc_as_again.nd rfl (.inl rfl) (pe_call (w_copied_ways N) (hr.mono (by decide)) (by rfl) N.g_copied_ways N.F_copied_ways.kp N.b_copied_ways .nil pass0 (pa_cons (pv 0) (pa_cons (pv 2) (pa_cons (pe_callB (call_lenK K) (by rfl) N.m_len PySem.boot_len (pa_cons (pv 1) pa_nil)) pa_nil)))))
 (pss_one (ps_ret (pe_make N.mk_Hall (w_Hall___init__ N) (hr.mono (by decide)) (by rfl) N.g_Hall N.b_Hall___init__ .nil pass0 (pa_cons (pe_fldK K (pv 0) rfl) (pa_cons (pe_callB call_lenTR (by rfl) N.m_len (by decide +kernel) (pa_cons (pv 2) pa_nil)) (pa_cons (pe_fldK K (pv 0) rfl) (pa_cons (pv 5) (pa_cons (pe_glob (v := .str "again") rfl N.k_AGAIN ⟨_, rfl⟩) (pa_cons (pe_callTy (call_tupleK K) (by rfl) N.m_tuple (by decide +kernel) (pa_cons (pv 4) pa_nil)) pa_nil))))))))))))))),
   fun B H0 as0 => ar1 fun hall_1 => ⟨_, rfl,
 (blk_seq (blk_ifL (S := Unit) (fun s_2 => [some (.im hall_1), none, none, none, none, none, none, none, none, none, none]) (et_test (EvW.r (ev_op ok_eq (EvW.r (ev_fld N.hf_kind (EvW.r (ev_var (i := 0) rfl)))) (EvW.r ev_str))))
 (blk_ret (EvW.f (ev_var (i := 0) rfl)))
 (blk_fin [] (by rfl))) fun s_2 =>
 (blk_set (i := 1) (ev_call (ea_cons (ev_var (i := 0) rfl) ea_nil)) fun pairs_3 =>
 (blk_set (i := 2) (ev_call (ea_cons (ev_var (i := 0) rfl) (ea_cons (ev_var (i := 1) rfl) ea_nil))) fun numbers_4 =>
 (blk_set (i := 3) (EvN.ew (en_lc2 (by rfl) (by decide) (src_enum (ev_var (i := 1) rfl)) fun e_18 st r q => by
 obtain ⟨at_13, never_14, often_15, rfl⟩ := unN_inv q
 exact ⟨[some (.im hall_1), some (.im pairs_3), some (.im numbers_4), none, none, none, some (.im at_13), some (.im never_14), some (.im often_15), none, none], TgOk.to (tg_nest (by decide) (by decide) (by decide)) (by rfl), et_yes, (src_it (ev_var (i := 8) rfl)), fun room_17 st r q => ⟨[some (.im hall_1), some (.im pairs_3), some (.im numbers_4), none, none, none, some (.im at_13), some (.im never_14), some (.im often_15), some (.im room_17), none], TgOk.to (tg_name (by decide)) (by rfl), et_yes, (ev_tup (ea_cons (ev_op ok_add (EvW.r (ev_var (i := 6) rfl)) (EvW.r ev_int)) (ea_cons (ev_var (i := 9) rfl) ea_nil)))⟩⟩)) fun spots_12 =>
 (blk_set (i := 4) (ev_cb1 ok_sortN (EvW.r (EvN.ew (en_lc (by rfl) (src_it (ev_var (i := 3) rfl)) fun spot_23 st r q => ⟨_, tg_name (by decide), (et_B (EvW.r (ev_din (EvW.r (ev_var (i := 10) rfl)) (EvW.r (ev_var (i := 2) rfl))))), (ev_ditem (EvW.r (ev_var (i := 2) rfl)) (EvW.r (ev_var (i := 10) rfl)))⟩)))) fun marks_22 =>
 (blk_set (i := 5) (ev_call (ea_cons (ev_var (i := 0) rfl) (ea_cons (ev_var (i := 2) rfl) (ea_cons (ev_cb1 ok_len (EvW.r (ev_var (i := 1) rfl))) ea_nil)))) fun ways_25 =>
 (blk_ret (EvW.f (ev_make (c := "Hall") (ea_cons (ev_fld N.hf_letters (EvW.r (ev_var (i := 0) rfl))) (ea_cons (ev_cb1 ok_lenT (EvW.r (ev_var (i := 2) rfl))) (ea_cons (ev_fld N.hf_start (EvW.r (ev_var (i := 0) rfl))) (ea_cons (ev_var (i := 5) rfl) (ea_cons ev_str (ea_cons (ev_cb1 ok_tuple (EvW.r (ev_var (i := 4) rfl))) ea_nil)))))))))))))))⟩⟩

noncomputable def m_seen_by (hall_1 pair_2 : U) : M U := fnM (rtO (orW (op2 inSU (op2 ixU (.ret pair_2) (.ret (.int 1))) (op1 (fldU ["Hall"] "by") (.ret hall_1))) (op2 notInSU (op2 ixU (.ret pair_2) (.ret (.int 0))) (op1 (fldU ["Hall"] "by") (.ret hall_1)))))
theorem w_seen_by {P : Program} {w : World} {K : PySem.W.Frag} {mg : Str → Option Value} {bs : Heap} (N : En w K mg) : FnOk P w K mg bs CX0 1 (He.ga K "seen_by") N.fd_seen_by ["hall", "pair"] (spM ⟨K, He.ga K⟩ (L2' m_seen_by)) :=
  fn_okF N.F_seen_by sc_seen_by (ar2 fun _ _ => rfl) fun cv A o s H E hr => ⟨_, PSs.nox (pss_one (ps_ret (pe_or (pe_cmpR (op_inAK K (rm66 hr)) (pe_ix (ix_seqK K) (pv 1) pe_int (fun _ _ => rfl)) (pe_fldK K (pv 0) rfl) (by rfl)) (pe_one (pe_cmpR (op_notInAK K (rm66 hr)) (pe_ix (ix_seqK K) (pv 1) pe_int (fun _ _ => rfl)) (pe_fldK K (pv 0) rfl) (by rfl)))))),
   fun B H0 as0 => ar2 fun hall_1 pair_2 => ⟨_, rfl,
 (blk_ret (EvW.f (ev_or (EvW.r (ev_op ok_in (EvW.r (ev_op ok_ix (EvW.r (ev_var (i := 1) rfl)) (EvW.r ev_int))) (EvW.r (ev_fld N.hf_by (EvW.r (ev_var (i := 0) rfl)))))) (ev_op ok_notIn (EvW.r (ev_op ok_ix (EvW.r (ev_var (i := 1) rfl)) (EvW.r ev_int))) (EvW.r (ev_fld N.hf_by (EvW.r (ev_var (i := 0) rfl))))))))⟩⟩

noncomputable def m_Hall_ends (self_1 room_2 letter_3 : U) : M U := fnM (rtO (op1 tupleU (.bind (op2 ixU (op1 (fldU ["Hall"] "goals") (.ret self_1)) (.ret room_2)) fun d => .bind (.ret letter_3) fun k => .bind (lstW nilA) fun z => .o (getD2 d k z))))
theorem w_Hall_ends {P : Program} {w : World} {K : PySem.W.Frag} {mg : Str → Option Value} {bs : Heap} (N : En w K mg) : FnOk P w K mg bs CX0 1 (He.ma K (He.ga K "Hall") "ends") N.fd_Hall_ends ["self", "room", "letter"] (spM ⟨K, He.ga K⟩ (L3 m_Hall_ends)) :=
  fn_okF N.F_Hall_ends sc_Hall_ends (ar3 fun _ _ _ => rfl) fun cv A o s H E hr => ⟨_, PSs.nox (pss_one (ps_ret (pe_callTy (call_tupleK K) (by rfl) N.m_tuple (by decide +kernel) (pa_cons (pe_dget2 (hu_of hr) (pe_ix (ix_seqK K) (pe_fldK K (pv 0) rfl) (pv 1) (fun _ _ => rfl)) (pv 2) (pe_lst pa_nil) ⟨rfl, rfl, rfl, rfl⟩) pa_nil)))),
   fun B H0 as0 => ar3 fun self_1 room_2 letter_3 => ⟨_, rfl,
 (blk_ret (EvW.f (ev_cb1 ok_tuple (EvW.r (ev_dget2 (EvW.r (ev_op ok_ix (EvW.r (ev_fld N.hf_goals (EvW.r (ev_var (i := 0) rfl)))) (EvW.r (ev_var (i := 1) rfl)))) (EvW.r (ev_var (i := 2) rfl)) (EvN.ew (en_lst ea_nil)))))))⟩⟩

noncomputable def m_steps_from (hall_1 room_2 : U) : M U := fnM (rtO (lc2W (rng1W (op1 (fldU ["Hall"] "letters") (.ret hall_1))) (fun letter_3 => (.ret true)) (fun letter_3 => (itW (methM "Hall" "ends" (L3 m_Hall_ends) (.ret hall_1) (consA (.ret room_2) (consA (.ret letter_3) nilA))))) (fun letter_3 end_5 => (.ret true)) fun letter_3 end_5 => (tupW (consA (.ret letter_3) (consA (.ret end_5) nilA)))))
theorem w_steps_from {P : Program} {w : World} {K : PySem.W.Frag} {mg : Str → Option Value} {bs : Heap} (N : En w K mg) : FnOk P w K mg bs CX0 2 (He.ga K "steps_from") N.fd_steps_from ["hall", "room"] (spM ⟨K, He.ga K⟩ (L2' m_steps_from)) :=
  fn_okF N.F_steps_from sc_steps_from (ar2 fun _ _ => rfl) fun cv A o s H E hr => ⟨_, PSs.nox (pss_one (ps_ret (pe_lc2 (own := [("letter", 2), ("end", 3)]) (vs1 := [3]) (by rfl) sc_steps_from.nd (pi_range1 (by rfl) N.m_range (pa_cons (pe_fldK K (pv 0) rfl) pa_nil)) (blkOk_by (own := [("letter", 2), ("end", 3)]) (N := N_steps_from) (sc := defScope s_steps_from) (by decide +kernel)) (by decide) (fun _ _ _ _ _ => (pg_name (i := 2) sc_steps_from.nd rfl (.inl rfl))) (fun _ _ _ _ _ => pts_nil) (fun _ _ _ _ _ => (pi_seqK K (pe_meth (pv 0) N.cl_Hall N.me_Hall_ends (w_Hall_ends N) (hr.mono (by decide)) N.b_Hall_ends .nil pass0 (pa_cons (pv 1) (pa_cons (pv 2) pa_nil))))) (fun _ _ _ _ _ => (pg_name (i := 3) sc_steps_from.nd rfl (.inl rfl))) (fun _ _ _ _ _ => pts_nil) (fun _ _ _ _ _ => (pe_tup (pa_cons (pv 2) (pa_cons (pv 3) pa_nil))))))),
   fun B H0 as0 => ar2 fun hall_1 room_2 => ⟨_, rfl,
 (blk_ret (EvW.f (EvN.ew (en_lc2 (by rfl) (by decide) (src_range1 (EvW.r (ev_fld N.hf_letters (EvW.r (ev_var (i := 0) rfl))))) fun letter_3 st r q => ⟨_, tg_name (by decide), et_yes, (src_it (ev_meth (c := "Hall") (ev_var (i := 0) rfl) (ea_cons (ev_var (i := 1) rfl) (ea_cons (ev_var (i := 2) rfl) ea_nil)))), fun end_5 st r q => ⟨_, tg_name (by decide), et_yes, (ev_tup (ea_cons (ev_var (i := 2) rfl) (ea_cons (ev_var (i := 3) rfl) ea_nil)))⟩⟩))))⟩⟩

noncomputable def m_answers (hall_1 pair_2 pairs_3 : U) : M U := fnM (.bind (.ret pair_2) fun u_12 => un2 u_12 fun one_4 other_5 => (seqO (S := Unit) (.bind (itW (callM (L2' m_steps_from) (consA (.ret hall_1) (consA (.ret one_4) nilA)))) fun us => forO (fun e_11 s_6 => un2 e_11 fun letter_7 end_8 => (iteW (notT (testW (op1 anyU (lcW (itW (methM "Hall" "ends" (L3 m_Hall_ends) (.ret hall_1) (consA (.ret other_5) (consA (.ret letter_7) nilA)))) (fun its_9 => (.ret true)) fun its_9 => (op2 inU (tupW (consA (.ret end_8) (consA (.ret its_9) nilA))) (.ret pairs_3)))))) (rtO (.ret (.bl false))) (nxO ()))) us ()) fun s_6 => (rtO (.ret (.bl true)))))
theorem w_answers {P : Program} {w : World} {K : PySem.W.Frag} {mg : Str → Option Value} {bs : Heap} (N : En w K mg) : FnOk P w K mg bs CX0 3 (He.ga K "answers") N.fd_answers ["hall", "pair", "pairs"] (spM ⟨K, He.ga K⟩ (L3 m_answers)) :=
  fn_okF N.F_answers sc_answers (ar3 fun _ _ _ => rfl) fun cv A o s H E hr => ⟨_, PSs.nox (pss_cons (ps_asg (pv 1) (pg_tup rfl (pgs_cons (pg_name (i := 3) sc_answers.nd rfl (.inl rfl)) (pgs_cons (pg_name (i := 4) sc_answers.nd rfl (.inl rfl)) pgs_nil))))
 (pss_cons (ps_for PassesOwn.never rfl (pi_seqK K (pe_call (w_steps_from N) (hr.mono (by decide)) (by rfl) N.g_steps_from N.F_steps_from.kp N.b_steps_from .nil pass0 (pa_cons (pv 0) (pa_cons (pv 3) pa_nil)))) (pg_tup rfl (pgs_cons (pg_name (i := 5) sc_answers.nd rfl (.inl rfl)) (pgs_cons (pg_name (i := 6) sc_answers.nd rfl (.inr rfl)) pgs_nil)))
 (pss_one (ps_if (pt_not (pt_val (pe_callB (cr_anyK K rfl) (by rfl) N.m_any (by decide +kernel) (pa_cons (pe_lc (own := [("its", 7)]) (by rfl) sc_answers.nd (pi_seqK K (pe_meth (pv 0) N.cl_Hall N.me_Hall_ends (w_Hall_ends N) (hr.mono (by decide)) N.b_Hall_ends .nil pass0 (pa_cons (pv 4) (pa_cons (pv 5) pa_nil)))) (blkOk_by (own := [("its", 7)]) (N := N_answers) (sc := defScope s_answers) (by decide +kernel)) (fun _ _ _ _ _ => (pg_name (i := 7) sc_answers.nd rfl (.inl rfl))) (fun _ _ _ _ _ => pts_nil) (fun _ _ _ _ _ => (pe_cmp (pc_din (hu_of hr) (pe_tup (pa_cons (pv 6) (pa_cons (pv 7) pa_nil))) (pv 2))))) pa_nil))))
 (pss_one (ps_ret pe_bl))
 pss_nil)))
 (pss_one (ps_ret pe_bl)))),
   fun B H0 as0 => ar3 fun hall_1 pair_2 pairs_3 => ⟨_, rfl,
 (blk_tg (vs := [3, 4]) (ev_var (i := 1) rfl) (pat2 (P := fun δ w => Blk _ _ δ w _ _) (by decide) (by decide) fun one_4 other_5 =>
 (blk_seq (blk_forL (S := Unit) [5, 6] [5, 6] (fun s_6 => [some (.im hall_1), some (.im pair_2), some (.im pairs_3), some (.im one_4), some (.im other_5), none, none, none]) (by rfl) (src_it (ev_call (ea_cons (ev_var (i := 0) rfl) (ea_cons (ev_var (i := 3) rfl) ea_nil))))
 (fun s_6 => pat2 (P := fun δ w => Blk _ _ δ w _ _) (by decide) (by decide) fun letter_7 end_8 => (blk_if (et_not (et_B (EvW.r (ev_cb1 ok_any (EvW.r (EvN.ew (en_lc (by rfl) (src_it (ev_meth (c := "Hall") (ev_var (i := 0) rfl) (ea_cons (ev_var (i := 4) rfl) (ea_cons (ev_var (i := 5) rfl) ea_nil)))) fun its_9 st r q => ⟨_, tg_name (by decide), et_yes, (ev_din (EvW.r (ev_tup (ea_cons (ev_var (i := 6) rfl) (ea_cons (ev_var (i := 7) rfl) ea_nil)))) (EvW.r (ev_var (i := 2) rfl)))⟩)))))))
 (blk_ret (EvW.f ev_bl))
 (blk_fin [5, 6] (by rfl))))) fun s_6 =>
 (blk_ret (EvW.f ev_bl)))))⟩⟩

noncomputable def m_is_pair (hall_1 thing_2 : U) : M U := fnM (seqO (S := Unit) (iteW (orT (notT (testW (op1 (isiU · "tuple") (.ret thing_2)))) (testW (op2 neU (op1 lenU (.ret thing_2)) (.ret (.int 2))))) (rtO (.ret (.bl false))) (nxO ())) fun s_3 => (rtO (op1 allU (lcW (itW (.ret thing_2)) (fun one_4 => (.ret true)) fun one_4 => (andW (op1 (isiU · "int") (.ret one_4)) (andW (op1 notU (op1 (isiU · "bool") (.ret one_4))) (chainW leU ltU (.ret (.int 0)) (.ret one_4) (op1 (fldU ["Hall"] "rooms") (.ret hall_1)))))))))
theorem w_is_pair {P : Program} {w : World} {K : PySem.W.Frag} {mg : Str → Option Value} {bs : Heap} (N : En w K mg) : FnOk P w K mg bs CX0 1 (He.ga K "is_pair") N.fd_is_pair ["hall", "thing"] (spM ⟨K, He.ga K⟩ (L2' m_is_pair)) :=
  fn_okF N.F_is_pair sc_is_pair (ar2 fun _ _ => rfl) fun cv A o s H E hr => ⟨_, PSs.nox (pss_cons (ps_if (PW.pt (pw_or (pt_not (pt_val (pe_callB (call_isiK K) (by rfl) N.m_isinstance (by decide +kernel) (pa_cons (pv 1) (pa_cons (pe_bltn (v := .ty "tuple") (by rfl) N.m_tuple (by decide +kernel) rfl) pa_nil))))) (pw_or1 (pt_cmpR (op_neK K hr.units) (pe_callB (call_lenK K) (by rfl) N.m_len PySem.boot_len (pa_cons (pv 1) pa_nil)) pe_int (nomark _)))))
 (pss_one (ps_ret pe_bl))
 pss_nil)
 (pss_one (ps_ret (pe_callB (cr_allK K rfl) (by rfl) N.m_all (by decide +kernel) (pa_cons (pe_lc (own := [("one", 2)]) (by rfl) sc_is_pair.nd (pi_seqK K (pv 1)) (blkOk_by (own := [("one", 2)]) (N := N_is_pair) (sc := defScope s_is_pair) (by decide +kernel)) (fun _ _ _ _ _ => (pg_name (i := 2) sc_is_pair.nd rfl (.inl rfl))) (fun _ _ _ _ _ => pts_nil) (fun _ _ _ _ _ => (pe_and (pe_callB (call_isiK K) (by rfl) N.m_isinstance (by decide +kernel) (pa_cons (pv 2) (pa_cons (pe_bltn (v := .ty "int") (by rfl) N.m_int (by decide +kernel) rfl) pa_nil))) (pe_and (pe_not (pe_callB (call_isiK K) (by rfl) N.m_isinstance (by decide +kernel) (pa_cons (pv 2) (pa_cons (pe_bltn (v := .ty "bool") (by rfl) N.m_bool (by decide +kernel) rfl) pa_nil)))) (pe_one (pe_chain op_le (op_ltK K hr.units) pe_int (pv 2) (pe_fldK K (pv 0) rfl))))))) pa_nil))))),
   fun B H0 as0 => ar2 fun hall_1 thing_2 => ⟨_, rfl,
 (blk_seq (blk_ifL (S := Unit) (fun s_3 => [some (.im hall_1), some (.im thing_2), none]) (et_or (et_not (et_B (EvW.r (ev_isi (EvW.r (ev_var (i := 1) rfl)))))) (et_test (EvW.r (ev_op ok_ne (EvW.r (ev_cb1 ok_len (EvW.r (ev_var (i := 1) rfl)))) (EvW.r ev_int)))))
 (blk_ret (EvW.f ev_bl))
 (blk_fin [] (by rfl))) fun s_3 =>
 (blk_ret (EvW.f (ev_cb1 ok_all (EvW.r (EvN.ew (en_lc (by rfl) (src_it (ev_var (i := 1) rfl)) fun one_4 st r q => ⟨_, tg_name (by decide), et_yes, (ev_and (EvW.r (ev_isi (EvW.r (ev_var (i := 2) rfl)))) (ev_and (EvW.r (ev_not (EvW.r (ev_isi (EvW.r (ev_var (i := 2) rfl)))))) (ev_chain ok_le ok_lt (EvW.r ev_int) (EvW.r (ev_var (i := 2) rfl)) (EvW.r (ev_fld N.hf_rooms (EvW.r (ev_var (i := 0) rfl)))))))⟩)))))))⟩⟩

noncomputable def m_shows_direct (hall_1 thing_2 : U) : M U := fnM (.bind (callM (L1 m_as_again) (consA (.ret hall_1) nilA)) fun again_3 => (seqO (S := Unit) (iteW (orT (notT (testW (op1 (isiU · "tuple") (.ret thing_2)))) (notT (testW (op1 allU (lcW (itW (.ret thing_2)) (fun pair_4 => (.ret true)) fun pair_4 => (callM (L2' m_is_pair) (consA (.ret again_3) (consA (.ret pair_4) nilA)))))))) (rtO (.ret (.bl false))) (nxO ())) fun s_6 => (seqO (S := Unit) (iteW (notT (testW (op1 allU (lcW (zipW (.ret thing_2) (slW (.ret thing_2) (someP (.ret (.int 1))) noP)) (fun e_9 => un2 e_9 fun one_7 other_8 => (.ret true)) fun e_9 => un2 e_9 fun one_7 other_8 => (op2 ltU (.ret one_7) (.ret other_8)))))) (rtO (.ret (.bl false))) (nxO ())) fun s_10 => (.bind (dcW true (itW (.ret thing_2)) (fun pair_13 => (.ret true)) (fun pair_13 => (.ret pair_13)) fun pair_13 => (.ret (.bl true))) fun pairs_12 => (rtO (op1 allU (lcW (itW (.ret thing_2)) (fun pair_14 => (.ret true)) fun pair_14 => (andW (callM (L2' m_seen_by) (consA (.ret again_3) (consA (.ret pair_14) nilA))) (callM (L3 m_answers) (consA (.ret again_3) (consA (.ret pair_14) (consA (.ret pairs_12) nilA))))))))))))
theorem w_shows_direct {P : Program} {w : World} {K : PySem.W.Frag} {mg : Str → Option Value} {bs : Heap} (N : En w K mg) : FnOk P w K mg bs CX0 10 (He.ga K "shows_direct") N.fd_shows_direct ["hall", "thing"] (spM ⟨K, He.ga K⟩ (L2' m_shows_direct)) :=
  fn_okF N.F_shows_direct sc_shows_direct (ar2 fun _ _ => rfl) fun cv A o s H E hr => ⟨_, PSs.nox (pss_cons (ps_set (i := 2) sc_shows_direct.nd rfl (.inr rfl) (pe_call (w_as_again N) (hr.mono (by decide)) (by rfl) N.g_as_again N.F_as_again.kp N.b_as_again .nil pass0 (pa_cons (pv 0) pa_nil)))
 (pss_cons (ps_if (PW.pt (pw_or (pt_not (pt_val (pe_callB (call_isiK K) (by rfl) N.m_isinstance (by decide +kernel) (pa_cons (pv 1) (pa_cons (pe_bltn (v := .ty "tuple") (by rfl) N.m_tuple (by decide +kernel) rfl) pa_nil))))) (pw_or1 (pt_not (pt_val (pe_callB (cr_allK K rfl) (by rfl) N.m_all (by decide +kernel) (pa_cons (pe_lc (own := [("pair", 4)]) (by rfl) sc_shows_direct.nd (pi_seqK K (pv 1)) (blkOk_by (own := [("pair", 4)]) (N := N_shows_direct) (sc := defScope s_shows_direct) (by decide +kernel)) (fun _ _ _ _ _ => (pg_name (i := 4) sc_shows_direct.nd rfl (.inl rfl))) (fun _ _ _ _ _ => pts_nil) (fun _ _ _ _ _ => (pe_call (w_is_pair N) (hr.mono (by decide)) (by rfl) N.g_is_pair N.F_is_pair.kp N.b_is_pair .nil pass0 (pa_cons (pv 2) (pa_cons (pv 4) pa_nil))))) pa_nil)))))))
 (pss_one (ps_ret pe_bl))
 pss_nil)
 (pss_cons (ps_if (pt_not (pt_val (pe_callB (cr_allK K rfl) (by rfl) N.m_all (by decide +kernel) (pa_cons (pe_lc (own := [("one", 5), ("other", 6)]) (by rfl) sc_shows_direct.nd (pi_zipAK K (by rfl) N.m_zip (pa_cons (pv 1) (pa_cons (pe_slice (sl_seqK K) (pv 1) (po_some pe_int) po_none) pa_nil))) (blkOk_by (own := [("one", 5), ("other", 6)]) (N := N_shows_direct) (sc := defScope s_shows_direct) (by decide +kernel)) (fun _ _ _ _ _ => (pg_tupK K (n := 2) rfl (pgs_cons (pg_name (i := 5) sc_shows_direct.nd rfl (.inl rfl)) (pgs_cons (pg_name (i := 6) sc_shows_direct.nd rfl (.inl rfl)) pgs_nil)))) (fun _ _ _ _ _ => pts_nil) (fun _ _ _ _ _ => (pe_cmpR (op_ltK K hr.units) (pv 5) (pv 6) (nomark _)))) pa_nil))))
 (pss_one (ps_ret pe_bl))
 pss_nil)
 (pss_cons (ps_set (i := 3) sc_shows_direct.nd rfl (.inr rfl) (pe_dcG true (hu_of hr) (own := [("pair", 4)]) (by rfl) sc_shows_direct.nd (pi_seqK K (pv 1)) (blkOk_by (own := [("pair", 4)]) (N := N_shows_direct) (sc := defScope s_shows_direct) (by decide +kernel)) (fun _ _ _ _ _ => (pg_name (i := 4) sc_shows_direct.nd rfl (.inl rfl))) (fun _ _ _ _ _ => pts_nil) (fun _ _ _ _ _ => (pv 4)) (fun _ _ _ _ _ => pe_bl)))
 (pss_one (ps_ret (pe_callB (cr_allK K rfl) (by rfl) N.m_all (by decide +kernel) (pa_cons (pe_lc (own := [("pair", 4)]) (by rfl) sc_shows_direct.nd (pi_seqK K (pv 1)) (blkOk_by (own := [("pair", 4)]) (N := N_shows_direct) (sc := defScope s_shows_direct) (by decide +kernel)) (fun _ _ _ _ _ => (pg_name (i := 4) sc_shows_direct.nd rfl (.inl rfl))) (fun _ _ _ _ _ => pts_nil) (fun _ _ _ _ _ => (pe_and (pe_call (w_seen_by N) (hr.mono (by decide)) (by rfl) N.g_seen_by N.F_seen_by.kp N.b_seen_by .nil pass0 (pa_cons (pv 2) (pa_cons (pv 4) pa_nil))) (pe_one (pe_call (w_answers N) (hr.mono (by decide)) (by rfl) N.g_answers N.F_answers.kp N.b_answers .nil pass0 (pa_cons (pv 2) (pa_cons (pv 4) (pa_cons (pv 3) pa_nil)))))))) pa_nil)))))))),
   fun B H0 as0 => ar2 fun hall_1 thing_2 => ⟨_, rfl,
 (blk_set (i := 2) (ev_call (ea_cons (ev_var (i := 0) rfl) ea_nil)) fun again_3 =>
 (blk_seq (blk_ifL (S := Unit) (fun s_6 => [some (.im hall_1), some (.im thing_2), some (.im again_3), none, none, none, none]) (et_or (et_not (et_B (EvW.r (ev_isi (EvW.r (ev_var (i := 1) rfl)))))) (et_not (et_B (EvW.r (ev_cb1 ok_all (EvW.r (EvN.ew (en_lc (by rfl) (src_it (ev_var (i := 1) rfl)) fun pair_4 st r q => ⟨_, tg_name (by decide), et_yes, (ev_call (ea_cons (ev_var (i := 2) rfl) (ea_cons (ev_var (i := 4) rfl) ea_nil)))⟩))))))))
 (blk_ret (EvW.f ev_bl))
 (blk_fin [] (by rfl))) fun s_6 =>
 (blk_seq (blk_ifL (S := Unit) (fun s_10 => [some (.im hall_1), some (.im thing_2), some (.im again_3), none, none, none, none]) (et_not (et_B (EvW.r (ev_cb1 ok_all (EvW.r (EvN.ew (en_lc (by rfl) (src_zip (ev_var (i := 1) rfl) (ev_sl (EvW.r (ev_var (i := 1) rfl)) (eo_some (EvW.r ev_int)) eo_none)) (lcp2 (i := 5) (j := 6) (vs := [5, 6]) (by decide) (by decide) fun one_7 other_8 => ⟨et_yes, (ev_op ok_lt (EvW.r (ev_var (i := 5) rfl)) (EvW.r (ev_var (i := 6) rfl)))⟩))))))))
 (blk_ret (EvW.f ev_bl))
 (blk_fin [] (by rfl))) fun s_10 =>
 (blk_set (i := 3) (EvN.ew (en_dc (by rfl) (src_it (ev_var (i := 1) rfl)) fun pair_13 st r q => ⟨_, tg_name (by decide), et_yes, (ev_var (i := 4) rfl), ev_bl⟩)) fun pairs_12 =>
 (blk_ret (EvW.f (ev_cb1 ok_all (EvW.r (EvN.ew (en_lc (by rfl) (src_it (ev_var (i := 1) rfl)) fun pair_14 st r q => ⟨_, tg_name (by decide), et_yes, (ev_and (EvW.r (ev_call (ea_cons (ev_var (i := 2) rfl) (ea_cons (ev_var (i := 4) rfl) ea_nil)))) (ev_call (ea_cons (ev_var (i := 2) rfl) (ea_cons (ev_var (i := 4) rfl) (ea_cons (ev_var (i := 3) rfl) ea_nil)))))⟩))))))))))⟩⟩

noncomputable def m__law_is_pair (thing_1 rooms_here_2 : U) : M U := fnM (seqO (S := Unit) (iteW (orT (notT (testW (op1 (isiU · "tuple") (.ret thing_1)))) (testW (op2 neU (op1 lenU (.ret thing_1)) (.ret (.int 2))))) (rtO (.ret (.bl false))) (nxO ())) fun s_3 => (rtO (op1 allU (lcW (itW (.ret thing_1)) (fun one_4 => (.ret true)) fun one_4 => (andW (op1 (isiU · "int") (.ret one_4)) (andW (op1 notU (op1 (isiU · "bool") (.ret one_4))) (chainW leU ltU (.ret (.int 0)) (.ret one_4) (.ret rooms_here_2))))))))
theorem w__law_is_pair {P : Program} {w : World} {K : PySem.W.Frag} {mg : Str → Option Value} {bs : Heap} (N : En w K mg) : FnOk P w K mg bs CX0 1 (He.ga K "_law_is_pair") N.fd__law_is_pair ["_law_thing", "_law_rooms_here"] (spM ⟨K, He.ga K⟩ (L2' m__law_is_pair)) :=
  fn_okF N.F__law_is_pair sc__law_is_pair (ar2 fun _ _ => rfl) fun cv A o s H E hr => ⟨_, PSs.nox (pss_cons (ps_if (PW.pt (pw_or (pt_not (pt_val (pe_callB (call_isiK K) (by rfl) N.m_isinstance (by decide +kernel) (pa_cons (pv 0) (pa_cons (pe_bltn (v := .ty "tuple") (by rfl) N.m_tuple (by decide +kernel) rfl) pa_nil))))) (pw_or1 (pt_cmpR (op_neK K hr.units) (pe_callB (call_lenK K) (by rfl) N.m_len PySem.boot_len (pa_cons (pv 0) pa_nil)) pe_int (nomark _)))))
 (pss_one (ps_ret pe_bl))
 pss_nil)
 (pss_one (ps_ret (pe_callB (cr_allK K rfl) (by rfl) N.m_all (by decide +kernel) (pa_cons (pe_lc (own := [("_law_one", 2)]) (by rfl) sc__law_is_pair.nd (pi_seqK K (pv 0)) (blkOk_by (own := [("_law_one", 2)]) (N := N__law_is_pair) (sc := defScope s__law_is_pair) (by decide +kernel)) (fun _ _ _ _ _ => (pg_name (i := 2) sc__law_is_pair.nd rfl (.inl rfl))) (fun _ _ _ _ _ => pts_nil) (fun _ _ _ _ _ => (pe_and (pe_callB (call_isiK K) (by rfl) N.m_isinstance (by decide +kernel) (pa_cons (pv 2) (pa_cons (pe_bltn (v := .ty "int") (by rfl) N.m_int (by decide +kernel) rfl) pa_nil))) (pe_and (pe_not (pe_callB (call_isiK K) (by rfl) N.m_isinstance (by decide +kernel) (pa_cons (pv 2) (pa_cons (pe_bltn (v := .ty "bool") (by rfl) N.m_bool (by decide +kernel) rfl) pa_nil)))) (pe_one (pe_chain op_le (op_ltK K hr.units) pe_int (pv 2) (pv 1))))))) pa_nil))))),
   fun B H0 as0 => ar2 fun thing_1 rooms_here_2 => ⟨_, rfl,
 (blk_seq (blk_ifL (S := Unit) (fun s_3 => [some (.im thing_1), some (.im rooms_here_2), none]) (et_or (et_not (et_B (EvW.r (ev_isi (EvW.r (ev_var (i := 0) rfl)))))) (et_test (EvW.r (ev_op ok_ne (EvW.r (ev_cb1 ok_len (EvW.r (ev_var (i := 0) rfl)))) (EvW.r ev_int)))))
 (blk_ret (EvW.f ev_bl))
 (blk_fin [] (by rfl))) fun s_3 =>
 (blk_ret (EvW.f (ev_cb1 ok_all (EvW.r (EvN.ew (en_lc (by rfl) (src_it (ev_var (i := 0) rfl)) fun one_4 st r q => ⟨_, tg_name (by decide), et_yes, (ev_and (EvW.r (ev_isi (EvW.r (ev_var (i := 2) rfl)))) (ev_and (EvW.r (ev_not (EvW.r (ev_isi (EvW.r (ev_var (i := 2) rfl)))))) (ev_chain ok_le ok_lt (EvW.r ev_int) (EvW.r (ev_var (i := 2) rfl)) (EvW.r (ev_var (i := 1) rfl)))))⟩)))))))⟩⟩

noncomputable def m__law_shows (drawn_1 thing_2 : U) : M U := fnM (seqO (S := Unit) (iteW (orT (notT (testW (op1 (isiU · "tuple") (.ret thing_2)))) (notT (testW (op1 allU (lcW (itW (.ret thing_2)) (fun pair_3 => (.ret true)) fun pair_3 => (callM (L2' m__law_is_pair) (consA (.ret pair_3) (consA (op2 ixU (.ret drawn_1) (.ret (.int 1))) nilA)))))))) (rtO (.ret (.bl false))) (nxO ())) fun s_5 => (seqO (S := Unit) (iteW (notT (testW (op1 allU (lcW (zipW (.ret thing_2) (slW (.ret thing_2) (someP (.ret (.int 1))) noP)) (fun e_8 => un2 e_8 fun one_6 other_7 => (.ret true)) fun e_8 => un2 e_8 fun one_6 other_7 => (op2 ltU (.ret one_6) (.ret other_7)))))) (rtO (.ret (.bl false))) (nxO ())) fun s_9 => (seqO (S := Unit) (.bind (itW (.ret thing_2)) fun us => forO (fun e_20 s_10 => un2 e_20 fun one_11 other_12 => (seqO (S := Unit) (iteW (andT (testW (op2 inSU (.ret one_11) (op2 ixU (.ret drawn_1) (.ret (.int 5))))) (testW (op2 notInSU (.ret other_12) (op2 ixU (.ret drawn_1) (.ret (.int 5)))))) (rtO (.ret (.bl false))) (nxO ())) fun s_13 => (seqO (S := Unit) (.bind (itW (callM (L2' m__law_ways_from) (consA (.ret drawn_1) (consA (.ret one_11) nilA)))) fun us => forO (fun e_19 s_14 => un2 e_19 fun letter_15 end_16 => (iteW (notT (testW (op1 anyU (lcW (itW (callM (L3 m__law_ends) (consA (.ret drawn_1) (consA (.ret other_12) (consA (.ret letter_15) nilA))))) (fun its_17 => (.ret true)) fun its_17 => (op2 inSU (tupW (consA (.ret end_16) (consA (.ret its_17) nilA))) (.ret thing_2)))))) (rtO (.ret (.bl false))) (nxO ()))) us ()) fun s_14 => (nxO ())))) us ()) fun s_10 => (rtO (.ret (.bl true))))))
theorem w__law_shows {P : Program} {w : World} {K : PySem.W.Frag} {mg : Str → Option Value} {bs : Heap} (N : En w K mg) : FnOk P w K mg bs CX0 2 (He.ga K "_law_shows") N.fd__law_shows ["_law_drawn", "_law_thing"] (spM ⟨K, He.ga K⟩ (L2' m__law_shows)) :=
  fn_okF N.F__law_shows sc__law_shows (ar2 fun _ _ => rfl) fun cv A o s H E hr => ⟨_, PSs.nox (pss_cons (ps_if (PW.pt (pw_or (pt_not (pt_val (pe_callB (call_isiK K) (by rfl) N.m_isinstance (by decide +kernel) (pa_cons (pv 1) (pa_cons (pe_bltn (v := .ty "tuple") (by rfl) N.m_tuple (by decide +kernel) rfl) pa_nil))))) (pw_or1 (pt_not (pt_val (pe_callB (cr_allK K rfl) (by rfl) N.m_all (by decide +kernel) (pa_cons (pe_lc (own := [("_law_pair", 6)]) (by rfl) sc__law_shows.nd (pi_seqK K (pv 1)) (blkOk_by (own := [("_law_pair", 6)]) (N := N__law_shows) (sc := defScope s__law_shows) (by decide +kernel)) (fun _ _ _ _ _ => (pg_name (i := 6) sc__law_shows.nd rfl (.inl rfl))) (fun _ _ _ _ _ => pts_nil) (fun _ _ _ _ _ => (pe_call (w__law_is_pair N) (hr.mono (by decide)) (by rfl) N.g__law_is_pair N.F__law_is_pair.kp N.b__law_is_pair .nil pass0 (pa_cons (pv 6) (pa_cons (pe_ix (ix_seqK K) (pv 0) pe_int (fun _ _ => rfl)) pa_nil))))) pa_nil)))))))
 (pss_one (ps_ret pe_bl))
 pss_nil)
 (pss_cons (ps_if (pt_not (pt_val (pe_callB (cr_allK K rfl) (by rfl) N.m_all (by decide +kernel) (pa_cons (pe_lc (own := [("_law_one", 2), ("_law_other", 3)]) (by rfl) sc__law_shows.nd (pi_zipAK K (by rfl) N.m_zip (pa_cons (pv 1) (pa_cons (pe_slice (sl_seqK K) (pv 1) (po_some pe_int) po_none) pa_nil))) (blkOk_by (own := [("_law_one", 2), ("_law_other", 3)]) (N := N__law_shows) (sc := defScope s__law_shows) (by decide +kernel)) (fun _ _ _ _ _ => (pg_tupK K (n := 2) rfl (pgs_cons (pg_name (i := 2) sc__law_shows.nd rfl (.inl rfl)) (pgs_cons (pg_name (i := 3) sc__law_shows.nd rfl (.inl rfl)) pgs_nil)))) (fun _ _ _ _ _ => pts_nil) (fun _ _ _ _ _ => (pe_cmpR (op_ltK K hr.units) (pv 2) (pv 3) (nomark _)))) pa_nil))))
 (pss_one (ps_ret pe_bl))
 pss_nil)
 (pss_cons (ps_for PassesOwn.never rfl (pi_seqK K (pv 1)) (pg_tup rfl (pgs_cons (pg_name (i := 2) sc__law_shows.nd rfl (.inl rfl)) (pgs_cons (pg_name (i := 3) sc__law_shows.nd rfl (.inl rfl)) pgs_nil)))
 (pss_cons (ps_if (PW.pt (pw_and (pt_cmpR (op_inAK K (rm66 hr)) (pv 2) (pe_ix (ix_seqK K) (pv 0) pe_int (fun _ _ => rfl)) (by rfl)) (pw_and1 (pt_cmpR (op_notInAK K (rm66 hr)) (pv 3) (pe_ix (ix_seqK K) (pv 0) pe_int (fun _ _ => rfl)) (by rfl)))))
 (pss_one (ps_ret pe_bl))
 pss_nil)
 (pss_one (ps_for PassesOwn.never rfl (pi_seqK K (pe_call (w__law_ways_from N) (hr.mono (by decide)) (by rfl) N.g__law_ways_from N.F__law_ways_from.kp N.b__law_ways_from .nil pass0 (pa_cons (pv 0) (pa_cons (pv 2) pa_nil)))) (pg_tup rfl (pgs_cons (pg_name (i := 4) sc__law_shows.nd rfl (.inl rfl)) (pgs_cons (pg_name (i := 5) sc__law_shows.nd rfl (.inr rfl)) pgs_nil)))
 (pss_one (ps_if (pt_not (pt_val (pe_callB (cr_anyK K rfl) (by rfl) N.m_any (by decide +kernel) (pa_cons (pe_lc (own := [("_law_its", 7)]) (by rfl) sc__law_shows.nd (pi_seqK K (pe_call (w__law_ends N) (hr.mono (by decide)) (by rfl) N.g__law_ends N.F__law_ends.kp N.b__law_ends .nil pass0 (pa_cons (pv 0) (pa_cons (pv 3) (pa_cons (pv 4) pa_nil))))) (blkOk_by (own := [("_law_its", 7)]) (N := N__law_shows) (sc := defScope s__law_shows) (by decide +kernel)) (fun _ _ _ _ _ => (pg_name (i := 7) sc__law_shows.nd rfl (.inl rfl))) (fun _ _ _ _ _ => pts_nil) (fun _ _ _ _ _ => (pe_cmpR (op_inAK K (rm66 hr)) (pe_tup (pa_cons (pv 5) (pa_cons (pv 7) pa_nil))) (pv 1) (by rfl)))) pa_nil))))
 (pss_one (ps_ret pe_bl))
 pss_nil))))))
 (pss_one (ps_ret pe_bl))))),
   fun B H0 as0 => ar2 fun drawn_1 thing_2 => ⟨_, rfl,
 (blk_seq (blk_ifL (S := Unit) (fun s_5 => [some (.im drawn_1), some (.im thing_2), none, none, none, none, none, none]) (et_or (et_not (et_B (EvW.r (ev_isi (EvW.r (ev_var (i := 1) rfl)))))) (et_not (et_B (EvW.r (ev_cb1 ok_all (EvW.r (EvN.ew (en_lc (by rfl) (src_it (ev_var (i := 1) rfl)) fun pair_3 st r q => ⟨_, tg_name (by decide), et_yes, (ev_call (ea_cons (ev_var (i := 6) rfl) (ea_cons (ev_op ok_ix (EvW.r (ev_var (i := 0) rfl)) (EvW.r ev_int)) ea_nil)))⟩))))))))
 (blk_ret (EvW.f ev_bl))
 (blk_fin [] (by rfl))) fun s_5 =>
 (blk_seq (blk_ifL (S := Unit) (fun s_9 => [some (.im drawn_1), some (.im thing_2), none, none, none, none, none, none]) (et_not (et_B (EvW.r (ev_cb1 ok_all (EvW.r (EvN.ew (en_lc (by rfl) (src_zip (ev_var (i := 1) rfl) (ev_sl (EvW.r (ev_var (i := 1) rfl)) (eo_some (EvW.r ev_int)) eo_none)) (lcp2 (i := 2) (j := 3) (vs := [2, 3]) (by decide) (by decide) fun one_6 other_7 => ⟨et_yes, (ev_op ok_lt (EvW.r (ev_var (i := 2) rfl)) (EvW.r (ev_var (i := 3) rfl)))⟩))))))))
 (blk_ret (EvW.f ev_bl))
 (blk_fin [] (by rfl))) fun s_9 =>
 (blk_seq (blk_forL (S := Unit) [2, 3, 4, 5] [2, 3] (fun s_10 => [some (.im drawn_1), some (.im thing_2), none, none, none, none, none, none]) (by rfl) (src_it (ev_var (i := 1) rfl))
 (fun s_10 => pat2 (P := fun δ w => Blk _ _ δ w _ _) (by decide) (by decide) fun one_11 other_12 => (blk_seq (blk_ifL (S := Unit) (fun s_13 => [some (.im drawn_1), some (.im thing_2), some (.im one_11), some (.im other_12), none, none, none, none]) (et_and (et_test (EvW.r (ev_op ok_in (EvW.r (ev_var (i := 2) rfl)) (EvW.r (ev_op ok_ix (EvW.r (ev_var (i := 0) rfl)) (EvW.r ev_int)))))) (et_test (EvW.r (ev_op ok_notIn (EvW.r (ev_var (i := 3) rfl)) (EvW.r (ev_op ok_ix (EvW.r (ev_var (i := 0) rfl)) (EvW.r ev_int)))))))
 (blk_ret (EvW.f ev_bl))
 (blk_fin [] (by rfl))) fun s_13 =>
 (blk_last (blk_seq (blk_forL (S := Unit) [4, 5] [4, 5] (fun s_14 => [some (.im drawn_1), some (.im thing_2), some (.im one_11), some (.im other_12), none, none, none, none]) (by rfl) (src_it (ev_call (ea_cons (ev_var (i := 0) rfl) (ea_cons (ev_var (i := 2) rfl) ea_nil))))
 (fun s_14 => pat2 (P := fun δ w => Blk _ _ δ w _ _) (by decide) (by decide) fun letter_15 end_16 => (blk_if (et_not (et_B (EvW.r (ev_cb1 ok_any (EvW.r (EvN.ew (en_lc (by rfl) (src_it (ev_call (ea_cons (ev_var (i := 0) rfl) (ea_cons (ev_var (i := 3) rfl) (ea_cons (ev_var (i := 4) rfl) ea_nil))))) fun its_17 st r q => ⟨_, tg_name (by decide), et_yes, (ev_op ok_in (EvW.r (ev_tup (ea_cons (ev_var (i := 5) rfl) (ea_cons (ev_var (i := 7) rfl) ea_nil)))) (EvW.r (ev_var (i := 1) rfl)))⟩)))))))
 (blk_ret (EvW.f ev_bl))
 (blk_fin [4, 5] (by rfl))))) fun s_14 =>
 (blk_fin [2, 3, 4, 5] (by rfl))))))) fun s_10 =>
 (blk_ret (EvW.f ev_bl)))))⟩⟩

noncomputable def m_law (script_1 : U) : M U := fnM (seqO (S := Unit) (.bind (rng1W (op2 max2U (.ret (.int 1)) (op2 min2U (.ret (.int 3)) (op1 lenU (.ret script_1))))) fun us => forO (fun k_3 s_2 => (.bind (callM (L2' m__law_box) (consA (.ret script_1) (consA (.ret k_3) nilA))) fun box_here_4 => (.bind (callM (L3 m__law_again) (consA (.ret box_here_4) (consA (op2 addU (.ret (.int 1)) (callM (L2' m__law_take) (consA (.ret box_here_4) (consA (.ret (.int 2)) nilA)))) (consA (.ret (.int 4)) nilA)))) fun drawn_5 => (.bind (callM (L1 m__law_hall_of) (consA (.ret drawn_5) nilA)) fun hall_here_6 => (.bind (callM (L1 m__law_direct) (consA (.ret drawn_5) nilA)) fun whole_7 => (.bind (op1 tupleU (lcW (rng1W (op2 ixU (.ret drawn_5) (.ret (.int 1)))) (fun room_11 => (.ret true)) fun room_11 => (tupW (consA (.ret room_11) (consA (.ret room_11) nilA))))) fun alone_10 => (.bind (lstW (consA (.ret whole_7) (consA (.ret alone_10) (consA (callM (L2' m__law_less) (consA (.ret drawn_5) (consA (lcW (itW (.ret whole_7)) (fun pair_16 => (testW (op2 gtU (callM (L2' m__law_take) (consA (.ret box_here_4) (consA (.ret (.int 3)) nilA))) (.ret (.int 0))))) fun pair_16 => (.ret pair_16)) nilA))) (consA (tupW nilA) nilA))))) fun lots_15 => (.bind (op2 addLU (.ret lots_15) (lstW (consA (op1 listU (.ret whole_7)) (consA (.ret .non) (consA (.ret (.bl true)) (consA (.ret (.int 0)) (consA (.ret (.str "")) (consA (.ret (.str "()")) (consA (.ret (.dct [] [])) (consA (lstW nilA) (consA (tupW (consA (.ret whole_7) nilA)) (consA (tupW (consA (.ret (.int 0)) (consA (.ret (.int 0)) nilA))) (consA (tupW (consA (tupW (consA (.ret (.int 0)) (consA (.ret (.int 0)) nilA))) (consA (tupW (consA (.ret (.int 0)) (consA (.ret (.int 0)) nilA))) nilA))) nilA))))))))))))) fun some_18 => (.bindS (.bind (.ret (some_18, id)) fun h => .bind (consA (callM (L2' m__law_deep) (consA (.ret box_here_4) (consA (.ret whole_7) nilA))) nilA) fun xs => .o (mutL appL h xs)) fun some_19 => (seqO (S := U) (.bind (rng1W (.ret (.int 14))) fun us => forO (fun turn_21 s_20 => (.bind (op2 ixU (.ret lots_15) (callM (L2' m__law_take) (consA (.ret box_here_4) (consA (.ret (.int 3)) nilA)))) fun one_22 => (seqO (S := U) (.bind (rng1W (op2 addU (.ret (.int 1)) (callM (L2' m__law_take) (consA (.ret box_here_4) (consA (.ret (.int 3)) nilA))))) fun us => forO (fun again_here_24 s_23 => (.bind (callM (L3 m__law_bent) (consA (.ret box_here_4) (consA (.ret s_23) (consA (op2 ixU (.ret drawn_5) (.ret (.int 1))) nilA)))) fun one_25 => (nxO one_25))) us one_22) fun s_23 => (.bindS (.bind (.ret (s_20, id)) fun h => .bind (consA (.ret s_23) nilA) fun xs => .o (mutL appL h xs)) fun some_26 => (nxO some_26))))) us some_19) fun s_20 => (seqO (S := Unit) (.bind (itW (.ret s_20)) fun us => forO (fun one_29 s_28 => (.bind (op1 reprE (.ret one_29)) fun held_30 => (.bind (callM (L2' m_shows_direct) (consA (.ret hall_here_6) (consA (.ret one_29) nilA))) fun told_31 => (iteW (orT (notT (testW (op1 (isiU · "bool") (.ret told_31)))) (orT (testW (op2 neU (.ret told_31) (callM (L2' m__law_shows) (consA (.ret drawn_5) (consA (.ret one_29) nilA))))) (testW (op2 neU (op1 reprE (.ret one_29)) (.ret held_30))))) (rtO (.ret (.bl false))) (nxO ()))))) us ()) fun s_28 => (iteW (notT (testW (op1 allU (lcW (itW (.ret lots_15)) (fun one_32 => (.ret true)) fun one_32 => (.bind (callM (L2' m_shows_direct) (consA (.ret hall_here_6) (consA (.ret one_32) nilA))) fun a => .ret (.bl (isB true a))))))) (rtO (.ret (.bl false))) (nxO ()))))))))))))) us ()) fun s_2 => (rtO (.ret (.bl true))))
theorem w_law {P : Program} {w : World} {K : PySem.W.Frag} {mg : Str → Option Value} {bs : Heap} (N : En w K mg) : FnG P w K mg bs CX0 11 (He.ga K "law") N.fd_law ["_law_script"] (spM ⟨K, He.ga K⟩ (L1 m_law)) :=
  fn_ok N.F_law sc_law (ar1 fun _ => rfl) fun cv A o s H E gd hr => ⟨_, PSs.nox (pss_cons (ps_for PassesOwn.never rfl (pi_range1 (by rfl) N.m_range (pa_cons (pe_callB (call_max2 rfl) (by rfl) N.m_max (by decide +kernel) (pa_cons pe_int (pa_cons (pe_callB (call_min2 rfl) (by rfl) N.m_min (by decide +kernel) (pa_cons pe_int (pa_cons (pe_callB (call_lenK K) (by rfl) N.m_len PySem.boot_len (pa_cons (pv 0) pa_nil)) pa_nil))) pa_nil))) pa_nil)) (pg_name (i := 1) sc_law.nd rfl (.inl rfl))
 (pss_cons (ps_set (i := 2) sc_law.nd rfl (.inr rfl) (pe_call (w__law_box N) (hr.mono (by decide)) (by rfl) N.g__law_box N.F__law_box.kp N.b__law_box .nil pass0 (pa_cons (pv 0) (pa_cons (pv 1) pa_nil))))
 (pss_cons (ps_set (i := 3) sc_law.nd rfl (.inl rfl) (pe_call (w__law_again N) (hr.mono (by decide)) (by rfl) N.g__law_again N.F__law_again.kp N.b__law_again .nil pass0 (pa_cons (pv 2) (pa_cons (pe_op (op_addK K) pe_int (pe_call (w__law_take N) (hr.mono (by decide)) (by rfl) N.g__law_take N.F__law_take.kp N.b__law_take .nil pass0 (pa_cons (pv 2) (pa_cons pe_int pa_nil)))) (pa_cons pe_int pa_nil)))))
 (pss_cons (ps_asg (pe_tup (pa_cons (pe_call (w__law_hall_of N) (hr.mono (by decide)) (by rfl) N.g__law_hall_of N.F__law_hall_of.kp N.b__law_hall_of .nil pass0 (pa_cons (pv 3) pa_nil)) (pa_cons (pe_call (w__law_direct N) (hr.mono (by decide)) (by rfl) N.g__law_direct N.F__law_direct.kp N.b__law_direct .nil pass0 (pa_cons (pv 3) pa_nil)) pa_nil))) (pg_tup rfl (pgs_cons (pg_name (i := 4) sc_law.nd rfl (.inr rfl)) (pgs_cons (pg_name (i := 5) sc_law.nd rfl (.inl rfl)) pgs_nil))))
 (pss_cons (ps_set (i := 6) sc_law.nd rfl (.inl rfl) (pe_callTy (call_tupleK K) (by rfl) N.m_tuple (by decide +kernel) (pa_cons (pe_lc (own := [("_law_room", 14)]) (by rfl) sc_law.nd (pi_range1 (by rfl) N.m_range (pa_cons (pe_ix (ix_seqK K) (pv 3) pe_int (fun _ _ => rfl)) pa_nil)) (blkOk_by (own := [("_law_room", 14)]) (N := N_law) (sc := defScope s_law) (by decide +kernel)) (fun _ _ _ _ _ => (pg_name (i := 14) sc_law.nd rfl (.inl rfl))) (fun _ _ _ _ _ => pts_nil) (fun _ _ _ _ _ => (pe_tup (pa_cons (pv 14) (pa_cons (pv 14) pa_nil))))) pa_nil)))
 (pss_cons (ps_set (i := 7) sc_law.nd rfl (.inl rfl) (pe_lst (pa_cons (pv 5) (pa_cons (pv 6) (pa_cons (pe_call (w__law_less N) (hr.mono (by decide)) (by rfl) N.g__law_less N.F__law_less.kp N.b__law_less .nil pass0 (pa_cons (pv 3) (pa_cons (pe_lc (own := [("_law_pair", 15)]) (by rfl) sc_law.nd (pi_seqK K (pv 5)) (blkOk_by (own := [("_law_pair", 15)]) (N := N_law) (sc := defScope s_law) (by decide +kernel)) (fun _ _ _ _ _ => (pg_name (i := 15) sc_law.nd rfl (.inl rfl))) (fun _ _ _ _ _ => (pts_one (pt_cmpR op_gt (pe_call (w__law_take N) (hr.mono (by decide)) (by rfl) N.g__law_take N.F__law_take.kp N.b__law_take .nil pass0 (pa_cons (pv 2) (pa_cons pe_int pa_nil))) pe_int (nomark _)))) (fun _ _ _ _ _ => (pv 15))) pa_nil))) (pa_cons (pe_tup pa_nil) pa_nil))))))
 (pss_cons (ps_set (i := 8) sc_law.nd rfl (.inl rfl) (pe_op (op_addK K) (pv 7) (pe_lst (pa_cons (pe_callTy (call_listK K) (by rfl) N.m_list (by decide +kernel) (pa_cons (pv 5) pa_nil)) (pa_cons pe_non (pa_cons pe_bl (pa_cons pe_int (pa_cons pe_str (pa_cons pe_str (pa_cons pe_dnewK (pa_cons (pe_lst pa_nil) (pa_cons (pe_tup (pa_cons (pv 5) pa_nil)) (pa_cons (pe_tup (pa_cons pe_int (pa_cons pe_int pa_nil))) (pa_cons (pe_tup (pa_cons (pe_tup (pa_cons pe_int (pa_cons pe_int pa_nil))) (pa_cons (pe_tup (pa_cons pe_int (pa_cons pe_int pa_nil))) pa_nil))) pa_nil))))))))))))))
 (pss_cons (ps_expr (pe_bm PySem.F.plainAttrs_list PySem.F.slot_list_append PySem.F.type_list_append mt_append (pv 8) (pa_cons (pe_call (w__law_deep N) (hr.mono (by decide)) (by rfl) N.g__law_deep N.F__law_deep.kp N.b__law_deep .nil pass0 (pa_cons (pv 2) (pa_cons (pv 5) pa_nil))) pa_nil)))
 (pss_cons (ps_for PassesOwn.never rfl (pi_range1 (by rfl) N.m_range (pa_cons pe_int pa_nil)) (pg_name (i := 9) sc_law.nd rfl (.inl rfl))
 (pss_cons (ps_set (i := 10) sc_law.nd rfl (.inl rfl) (pe_ix (ix_seqK K) (pv 7) (pe_call (w__law_take N) (hr.mono (by decide)) (by rfl) N.g__law_take N.F__law_take.kp N.b__law_take .nil pass0 (pa_cons (pv 2) (pa_cons pe_int pa_nil))) (fun _ _ => rfl)))
 (pss_cons (ps_for PassesOwn.never rfl (pi_range1 (by rfl) N.m_range (pa_cons (pe_op (op_addK K) pe_int (pe_call (w__law_take N) (hr.mono (by decide)) (by rfl) N.g__law_take N.F__law_take.kp N.b__law_take .nil pass0 (pa_cons (pv 2) (pa_cons pe_int pa_nil)))) pa_nil)) (pg_name (i := 11) sc_law.nd rfl (.inl rfl))
 (pss_one (ps_set (i := 10) sc_law.nd rfl (.inl rfl) (pe_call (w__law_bent N) (hr.mono (by decide)) (by rfl) N.g__law_bent N.F__law_bent.kp N.b__law_bent .nil pass0 (pa_cons (pv 2) (pa_cons (pv 10) (pa_cons (pe_ix (ix_seqK K) (pv 3) pe_int (fun _ _ => rfl)) pa_nil)))))))
 (pss_one (ps_expr (pe_bm PySem.F.plainAttrs_list PySem.F.slot_list_append PySem.F.type_list_append mt_append (pv 8) (pa_cons (pv 10) pa_nil)))))))
 (pss_cons (ps_for PassesOwn.never rfl (pi_seqK K (pv 8)) (pg_name (i := 10) sc_law.nd rfl (.inl rfl))
 (pss_cons (ps_par (i := 12) (j := 13) (by rfl) sc_law.nd rfl rfl (by decide) rfl rfl (pa_cons (pe_callB (call_reprEK N.sysd gd (rm66 hr)) (by rfl) N.m_repr (by decide +kernel) (pa_cons (pv 10) pa_nil)) (pa_cons (pe_call (w_shows_direct N) (hr.mono (by decide)) (by rfl) N.g_shows_direct N.F_shows_direct.kp N.b_shows_direct .nil pass0 (pa_cons (pv 4) (pa_cons (pv 10) pa_nil))) pa_nil)) (by rfl))
 (pss_one (ps_if (PW.pt (pw_or (pt_not (pt_val (pe_callB (call_isiK K) (by rfl) N.m_isinstance (by decide +kernel) (pa_cons (pv 13) (pa_cons (pe_bltn (v := .ty "bool") (by rfl) N.m_bool (by decide +kernel) rfl) pa_nil))))) (pw_or (pt_cmpR (op_neK K hr.units) (pv 13) (pe_call (w__law_shows N) (hr.mono (by decide)) (by rfl) N.g__law_shows N.F__law_shows.kp N.b__law_shows .nil pass0 (pa_cons (pv 3) (pa_cons (pv 10) pa_nil))) (nomark _)) (pw_or1 (pt_cmpR (op_neK K hr.units) (pe_callB (call_reprEK N.sysd gd (rm66 hr)) (by rfl) N.m_repr (by decide +kernel) (pa_cons (pv 10) pa_nil)) (pv 12) (nomark _))))))
 (pss_one (ps_ret pe_bl))
 pss_nil))))
 (pss_one (ps_if (pt_not (pt_val (pe_callB (cr_allK K rfl) (by rfl) N.m_all (by decide +kernel) (pa_cons (pe_lc (own := [("_law_one", 10)]) (by rfl) sc_law.nd (pi_seqK K (pv 7)) (blkOk_by (own := [("_law_one", 10)]) (N := N_law) (sc := defScope s_law) (by decide +kernel)) (fun _ _ _ _ _ => (pg_name (i := 10) sc_law.nd rfl (.inl rfl))) (fun _ _ _ _ _ => pts_nil) (fun _ _ _ _ _ => (pe_cmpR op_isB (pe_call (w_shows_direct N) (hr.mono (by decide)) (by rfl) N.g_shows_direct N.F_shows_direct.kp N.b_shows_direct .nil pass0 (pa_cons (pv 4) (pa_cons (pv 10) pa_nil))) pe_bl (nomark _)))) pa_nil))))
 (pss_one (ps_ret pe_bl))
 pss_nil))))))))))))
 (pss_one (ps_ret pe_bl))),
   fun B H0 as0 => ar1 fun script_1 => ⟨_, rfl,
 (blk_seq (blk_forL (S := Unit) [1, 2, 3, 4, 5, 6, 7, 8, 9, 10, 11, 12, 13] [1] (fun s_2 => [some (.im script_1), none, none, none, none, none, none, none, none, none, none, none, none, none, none, none]) (by rfl) (src_range1 (EvW.r (ev_max2 (EvW.r ev_int) (EvW.r (ev_min2 (EvW.r ev_int) (EvW.r (ev_cb1 ok_len (EvW.r (ev_var (i := 0) rfl)))))))))
 (fun s_2 k_3 st r q => ⟨_, tg_name (by decide), (blk_set (i := 2) (ev_call (ea_cons (ev_var (i := 0) rfl) (ea_cons (ev_var (i := 1) rfl) ea_nil))) fun box_here_4 =>
 (blk_set (i := 3) (ev_call (ea_cons (ev_var (i := 2) rfl) (ea_cons (ev_op ok_add (EvW.r ev_int) (EvW.r (ev_call (ea_cons (ev_var (i := 2) rfl) (ea_cons ev_int ea_nil))))) (ea_cons ev_int ea_nil)))) fun drawn_5 =>
 (blk_tup_WW (i0 := 4) (i1 := 5) (ev_call (ea_cons (ev_var (i := 3) rfl) ea_nil)) (ev_call (ea_cons (ev_var (i := 3) rfl) ea_nil)) fun hall_here_6 whole_7 =>
 (blk_set (i := 6) (ev_cb1 ok_tuple (EvW.r (EvN.ew (en_lc (by rfl) (src_range1 (EvW.r (ev_op ok_ix (EvW.r (ev_var (i := 3) rfl)) (EvW.r ev_int)))) fun room_11 st r q => ⟨_, tg_name (by decide), et_yes, (ev_tup (ea_cons (ev_var (i := 14) rfl) (ea_cons (ev_var (i := 14) rfl) ea_nil)))⟩)))) fun alone_10 =>
 (blk_set (i := 7) (EvN.ew (en_lst (ea_cons (ev_var (i := 5) rfl) (ea_cons (ev_var (i := 6) rfl) (ea_cons (ev_call (ea_cons (ev_var (i := 3) rfl) (ea_cons (EvN.ew (en_lc (by rfl) (src_it (ev_var (i := 5) rfl)) fun pair_16 st r q => ⟨_, tg_name (by decide), (et_test (EvW.r (ev_op ok_gt (EvW.r (ev_call (ea_cons (ev_var (i := 2) rfl) (ea_cons ev_int ea_nil)))) (EvW.r ev_int)))), (ev_var (i := 15) rfl)⟩)) ea_nil))) (ea_cons (ev_tup ea_nil) ea_nil)))))) fun lots_15 =>
 (blk_own (i := 8) (en_addL (EvW.r (ev_var (i := 7) rfl)) (EvW.r (EvN.ew (en_lst (ea_cons (ev_cb1 ok_list (EvW.r (ev_var (i := 5) rfl))) (ea_cons ev_non (ea_cons ev_bl (ea_cons ev_int (ea_cons ev_str (ea_cons ev_str (ea_cons (EvN.ew en_dK) (ea_cons (EvN.ew (en_lst ea_nil)) (ea_cons (ev_tup (ea_cons (ev_var (i := 5) rfl) ea_nil)) (ea_cons (ev_tup (ea_cons ev_int (ea_cons ev_int ea_nil))) (ea_cons (ev_tup (ea_cons (ev_tup (ea_cons ev_int (ea_cons ev_int ea_nil))) (ea_cons (ev_tup (ea_cons ev_int (ea_cons ev_int ea_nil))) ea_nil))) ea_nil))))))))))))))) fun some_18 =>
 (blk_x2 (ex_mut mut_app (eh_slot (i := 8) rfl) (ea_cons (ev_call (ea_cons (ev_var (i := 2) rfl) (ea_cons (ev_var (i := 5) rfl) ea_nil))) ea_nil)) fun some_19 =>
 (blk_seq (blk_forL (S := U) [9, 10, 11] [9] (fun s_20 => [some (.im script_1), some (.im k_3), some (.im box_here_4), some (.im drawn_5), some (.im hall_here_6), some (.im whole_7), some (.im alone_10), some (.im lots_15), some (.own (.lst .leaf) s_20), none, none, none, none, none, none, none]) (by rfl) (src_range1 (EvW.r ev_int))
 (fun s_20 turn_21 st r q => ⟨_, tg_name (by decide), (blk_set (i := 10) (ev_op ok_ix (EvW.r (ev_var (i := 7) rfl)) (EvW.r (ev_call (ea_cons (ev_var (i := 2) rfl) (ea_cons ev_int ea_nil))))) fun one_22 =>
 (blk_seq (blk_forL (S := U) [11] [11] (fun s_23 => [some (.im script_1), some (.im k_3), some (.im box_here_4), some (.im drawn_5), some (.im hall_here_6), some (.im whole_7), some (.im alone_10), some (.im lots_15), some (.own (.lst .leaf) s_20), some (.im turn_21), some (.im s_23), none, none, none, none, none]) (by rfl) (src_range1 (EvW.r (ev_op ok_add (EvW.r ev_int) (EvW.r (ev_call (ea_cons (ev_var (i := 2) rfl) (ea_cons ev_int ea_nil)))))))
 (fun s_23 again_here_24 st r q => ⟨_, tg_name (by decide), (blk_last (blk_set (i := 10) (ev_call (ea_cons (ev_var (i := 2) rfl) (ea_cons (ev_var (i := 10) rfl) (ea_cons (ev_op ok_ix (EvW.r (ev_var (i := 3) rfl)) (EvW.r ev_int)) ea_nil)))) fun one_25 =>
 (blk_fin [11] (by rfl))))⟩)) fun s_23 =>
 (blk_last (blk_x2 (ex_mut mut_app (eh_slot (i := 8) rfl) (ea_cons (ev_var (i := 10) rfl) ea_nil)) fun some_26 =>
 (blk_fin [9, 10, 11] (by rfl))))))⟩)) fun s_20 =>
 (blk_frz (i := 8) rfl (blk_seq (blk_forL (S := Unit) [10, 12, 13] [10] (fun s_28 => [some (.im script_1), some (.im k_3), some (.im box_here_4), some (.im drawn_5), some (.im hall_here_6), some (.im whole_7), some (.im alone_10), some (.im lots_15), some (.im s_20), none, none, none, none, none, none, none]) (by rfl) (src_it (ev_var (i := 8) rfl))
 (fun s_28 one_29 st r q => ⟨_, tg_name (by decide), (blk_par2 (i0 := 12) (i1 := 13) (ev_cb1 ok_reprE (EvW.r (ev_var (i := 10) rfl))) (ev_call (ea_cons (ev_var (i := 4) rfl) (ea_cons (ev_var (i := 10) rfl) ea_nil))) fun held_30 told_31 =>
 (blk_if (et_or (et_not (et_B (EvW.r (ev_isi (EvW.r (ev_var (i := 13) rfl)))))) (et_or (et_test (EvW.r (ev_op ok_ne (EvW.r (ev_var (i := 13) rfl)) (EvW.r (ev_call (ea_cons (ev_var (i := 3) rfl) (ea_cons (ev_var (i := 10) rfl) ea_nil))))))) (et_test (EvW.r (ev_op ok_ne (EvW.r (ev_cb1 ok_reprE (EvW.r (ev_var (i := 10) rfl)))) (EvW.r (ev_var (i := 12) rfl)))))))
 (blk_ret (EvW.f ev_bl))
 (blk_fin [10, 12, 13] (by rfl))))⟩)) fun s_28 =>
 (blk_if (et_not (et_B (EvW.r (ev_cb1 ok_all (EvW.r (EvN.ew (en_lc (by rfl) (src_it (ev_var (i := 7) rfl)) fun one_32 st r q => ⟨_, tg_name (by decide), et_yes, (ev_isB (EvW.r (ev_call (ea_cons (ev_var (i := 4) rfl) (ea_cons (ev_var (i := 10) rfl) ea_nil)))))⟩)))))))
 (blk_ret (EvW.f ev_bl))
 (blk_fin [1, 2, 3, 4, 5, 6, 7, 8, 9, 10, 11, 12, 13] (by rfl)))))))))))))⟩)) fun s_2 =>
 (blk_ret (EvW.f ev_bl)))⟩⟩

local macro_rules | `(tactic| walk_at "v1") => `(tactic| with_reducible first
  | refine vs_ret ?_ | refine vs_o ?_ | refine wo_some ?_ | refine Wp.bind ?_ | refine vs_op2 ?_ | refine vs_op1 ?_ | refine vs_test ?_ | refine vs_not ?_ | refine vs_and ?_ | refine vs_or ?_ | refine vs_andW ?_ | refine vs_orW ?_ | refine vs_ite ?_ | refine vs_chain ?_
  | refine vs_consA ?_ | refine vs_nilA ?_ | refine vs_tup ?_ | refine vs_lst ?_ | refine vs_call ?_ | refine vs_meth ?_ | refine vs_L1 ?_ | refine vs_L2 ?_ | refine vs_L3 ?_ | refine vs_L4 ?_ | refine vs_L5 ?_ | refine vs_L6 ?_ | refine vs_L0 ?_
  | refine vs_seq ?_ | refine sk_nx ?_ | refine sk_rt ?_ | refine sk_bk ?_ | refine sk_ct ?_ | refine fk_rt ?_ | refine fk_nx ?_ | refine ok_nx ?_ | refine ok_ct ?_ | refine ok_bk ?_ | refine ok_rt ?_ | refine vs_rt ?_ | refine vs_nx ?_ | refine vs_fn ?_
  | refine vs_noP ?_ | refine vs_someP ?_ | refine vs_sl ?_ | refine vs_it ?_ | refine vs_rng1 ?_ | refine vs_rng2 ?_ | refine vs_zip ?_ | refine vs_un2 ?_ | refine vs_un3 ?_ | refine vs_un4 ?_ | refine vs_un5 ?_ | refine vs_un6 ?_ | refine vs_lc ?_ | refine vs_lc2 ?_ | refine vs_bind2 ?_ | refine vs_bindS ?_ | refine vs_enum ?_ | refine vs_keys ?_ | refine vs_tupR ?_ | refine vs_lstR ?_ | refine vs_xitem ?_ | refine vs_itX ?_ | refine vs_keysN ?_ | refine vs_un22 ?_ | refine vs_un21 ?_
  | refine if_t ?_ | refine if_f ?_ | refine if_nt ?_ | refine if_nf ?_
  | refine wo_add_i ?_ | refine wo_sub ?_ | refine wo_neg ?_ | refine wo_le ?_ | refine wo_lt ?_ | refine wo_gt ?_ | refine wo_ge ?_ | refine wo_eq_i ?_ | refine wo_ne_i ?_ | refine wo_eq_s ?_ | refine wo_ne_s ?_ | refine wo_not ?_ | refine wo_bool ?_ | refine wo_int ?_
  | refine wo_len_t ?_ | refine wo_len_l ?_ | refine wo_len_f ?_ | refine wo_tuple_l ?_ | refine wo_tuple_t ?_ | refine wo_list_l ?_ | refine wo_list_t ?_ | refine wo_it_t ?_ | refine wo_it_l ?_ | refine wo_it_f ?_ | refine wo_sl_t ?_ | refine wo_sl_l ?_ | refine wo_zip_tt ?_ | refine wo_enum_t ?_ | refine wo_enum_l ?_ | refine wo_in_t ?_ | refine wo_in_l ?_ | refine wo_nin_t ?_ | refine wo_nin_l ?_ | refine wo_eq_b ?_ | refine wo_ne_b ?_ | refine wo_dTin ?_ | refine wo_dTnin ?_ | refine wo_dTkeys ?_)
local macro_rules | `(tactic| walk_at "v2") => `(tactic| first
  | refine ⟨lit_le rfl, ?_⟩
  | (with_reducible refine wo_mul (by omega) ?_) | (with_reducible refine wo_modp (by omega) ?_) | (with_reducible refine wo_mod (by omega) ?_) | (with_reducible refine wo_fdiv (by omega) (by omega) ?_)
  | (with_reducible refine wo_rng1 ⟨by omega, by omega⟩ ?_) | (with_reducible refine wo_rng2 ⟨by omega, by omega⟩ ⟨by omega, by omega⟩ ?_)
  | (with_reducible refine wo_ix_t rfl ?_) | (with_reducible refine wo_ix_l rfl ?_) | (with_reducible refine wo_ix0 ?_) | (with_reducible refine wo_ix1 ?_) | (with_reducible refine wo_ix2 ?_) | (with_reducible refine wo_isObj rfl ?_) | (with_reducible refine wo_fld rfl ?_))
local macro_rules | `(tactic| walk_at "v") => `(tactic| repeat (first | walk_at "v1" | walk_at "v2"))

def Rs (n : Int) (rs : List Int) : Prop := rs.Pairwise (· < ·) ∧ ∀ r ∈ rs, 0 ≤ r ∧ r < n
theorem rng_at {n : Int} (h0 : 0 ≤ n) (h1 : n < 1000000000) : rng1U (.int n) = some ((List.range n.toNat).map fun i => U.int (i : Nat)) := if_pos ⟨by omega, by omega⟩
theorem wp_rng {n : Int} {st : Sto} {Q : List U → Sto → Prop} (h0 : 0 ≤ n) (h1 : n < 1000000000) (q : Q ((List.range n.toNat).map fun i => U.int (i : Nat)) st) : Wp (rng1W (.ret (.int n))) st Q := .bind (.ret (.o (rng_at h0 h1) q))
def pairU (p : List Int × List Int) : U := .tup [.tup (p.1.map .int), .tup (p.2.map .int)]
inductive ByOk (n : Int) : Str → U → Prop where
  | again {rs : List Int} (h : Rs n rs) : ByOk n "again" (.tup (rs.map .int))
  | last {rs : List Int} (h : Rs n rs) : ByOk n "at last" (.tup (rs.map .int))
  | pairs {ps : List (List Int × List Int)} (l : ps.length ≤ 4) (h : ∀ p ∈ ps, Rs n p.1 ∧ Rs n p.2) : ByOk n "pairs" (.tup (ps.map pairU))
  | ranks {rk : List Int} (l : (rk.length : Int) = n) (h : ∀ r ∈ rk, 0 ≤ r) : ByOk n "ranks" (.tup (rk.map .int))
def kinds4 : List U := [.str "again", .str "at last", .str "pairs", .str "ranks"]
def Tri (n L : Int) (w : List Int) : Prop := ∃ r l e : Int, w = [r, l, e] ∧ 0 ≤ r ∧ r < n ∧ 0 ≤ l ∧ l < L ∧ 0 ≤ e ∧ e < n
def lexLt : List Int → List Int → Prop
  | [r, l, e], [r', l', e'] => r < r' ∨ (r = r' ∧ (l < l' ∨ (l = l' ∧ e < e')))
  | _, _ => False
def WOk (n L : Int) (W : List (List Int)) : Prop := (∀ w ∈ W, Tri n L w) ∧ W.Pairwise lexLt
def Ahd (i j : Int) (W : List (List Int)) : Prop := ∀ w ∈ W, ∃ r l e : Int, w = [r, l, e] ∧ (r < i ∨ (r = i ∧ l < j))
theorem wok_more {n L i j : Int} {W : List (List Int)} {es : List Int} (h : WOk n L W) (ha : Ahd i j W) (hi : 0 ≤ i ∧ i < n) (hj : 0 ≤ j ∧ j < L) (he : Rs n es) : WOk n L (W ++ es.map fun e => [i, j, e]) ∧ Ahd i (j + 1) (W ++ es.map fun e => [i, j, e]) := by
  refine ⟨⟨fun w m => ?_, ?_⟩, fun w m => ?_⟩
  · rcases List.mem_append.mp m with m | m
    · exact h.1 w m
    · obtain ⟨e, me, rfl⟩ := List.mem_map.mp m
      have := he.2 e me
      exact ⟨i, j, e, rfl, hi.1, hi.2, hj.1, hj.2, this.1, this.2⟩
  · rw [List.pairwise_append]
    refine ⟨h.2, List.pairwise_map.mpr (he.1.imp fun h => .inr ⟨rfl, .inr ⟨rfl, h⟩⟩), fun a ma b mb => ?_⟩
    obtain ⟨r, l, e, rfl, q⟩ := ha a ma
    obtain ⟨e', me, rfl⟩ := List.mem_map.mp mb
    rcases q with q | ⟨q1, q2⟩
    · exact .inl q
    · exact .inr ⟨q1, .inl q2⟩
  · rcases List.mem_append.mp m with m | m
    · obtain ⟨r, l, e, rfl, q⟩ := ha w m
      exact ⟨r, l, e, rfl, by omega⟩
    · obtain ⟨e, me, rfl⟩ := List.mem_map.mp m
      exact ⟨i, j, e, rfl, by omega⟩
structure HallOk (L n : Int) (u : U) : Prop where
  ex : ∃ (s : Int) (W : List (List Int)) (kind : Str) (B : U), u = .tup [.int L, .int n, .int s, .tup (W.map tupI), .str kind, B] ∧ 0 ≤ s ∧ s < n ∧ WOk n L W ∧ U.str kind ∈ kinds4 ∧ ByOk n kind B

theorem wp_ret {α : Type} {w : M α} {a : α} {st : Sto} {Q : α → Sto → Prop} (e : w = .ret a) (q : Q a st) : Wp w st Q := e ▸ .ret q
theorem below_eq {i n : Int} (h0 : 0 ≤ i) (h1 : i < n) : m_is_below (.int i) (.int n) = .ret (.bl true) := by
  have e : m_is_below (.int i) (.int n) = fnM (rtO (M.bind (M.o (boolU (.bl (decide (0 ≤ i))))) fun k => if k = true then M.o (ltU (.int i) (.int n)) else .ret (.bl false))) := rfl
  rw [e, decide_eq_true h0]
  show fnM (rtO (M.o (some (U.bl (decide (i < n)))))) = _
  rw [decide_eq_true h1]
  rfl
theorem comp_map {wt : U → M Bool} {we : U → M U} {f : U → U} : ∀ {us : List U}, (∀ u ∈ us, wt u = .ret true ∧ we u = .ret (f u)) → compM wt we us = .ret (us.map f)
  | [], _ => rfl
  | u :: us, h => by
    rw [compM, (h u List.mem_cons_self).1]
    show M.bind (we u) _ = _
    rw [(h u List.mem_cons_self).2]
    show M.bind (compM wt we us) _ = _
    rw [comp_map fun v m => h v (List.mem_cons_of_mem _ m)]
    rfl
theorem bools_true : ∀ (n : Nat), boolsU (List.replicate n (U.bl true)) = some (List.replicate n true)
  | 0 => rfl
  | n + 1 => by rw [List.replicate_succ, boolsU, bools_true n]; rfl
theorem all_true (n : Nat) : allU (.lst (List.replicate n (U.bl true))) = some (.bl true) := by
  simp only [allU, bools_true, Option.map_some]
  congr 2
  simp
theorem map_true {α : Type} (us : List α) : us.map (fun _ => U.bl true) = List.replicate us.length (U.bl true) := by
  rw [List.map_const']
theorem lc_true {wl : M (List U)} {wt : U → M Bool} {we : U → M U} {us : List U} (hl : wl = .ret us) (hs : us.length ≤ sizeLine) (h : ∀ u ∈ us, wt u = .ret true ∧ we u = .ret (.bl true)) : op1 allU (lcW wl wt we) = .ret (.bl true) := by
  unfold op1 lcW
  rw [hl]
  show M.bind (M.bind (compM wt we us) fun r => .o (szU r)) (fun a => .o (allU a)) = _
  rw [comp_map (f := fun _ => .bl true) h]
  show M.bind (M.o (szU (us.map fun _ => U.bl true))) (fun a => M.o (allU a)) = _
  rw [map_true, szU, if_pos (by rw [List.length_replicate]; exact hs)]
  show M.o (allU _) = _
  rw [all_true]; rfl
theorem pd_row (ns : List Int) : pd (tupI ns) = some (.tuple (ns.map PyData.int)) := by simp [tupI, pd, pdAll_ints]
theorem ltU_row {a b : List Int} (h : lexLt a b) : ltU (tupI a) (tupI b) = some (.bl true) := by
  match a, b, h with
  | [r, l, e], [r', l', e'], h =>
    have e0 : ltU (tupI [r, l, e]) (tupI [r', l', e']) = (match pd (tupI [r, l, e]), pd (tupI [r', l', e']) with
      | some d, some e => if PySem.W.alike d e = true ∧ notNone d = true ∧ d.depth ≤ 64 then some (U.bl (PySem.W.dataLt d e)) else none
      | _, _ => none) := rfl
    rw [e0, pd_row, pd_row]
    simp only
    rw [if_pos ⟨by simp [PySem.W.alike, PySem.W.alikeAll], rfl, by simp [PyData.depth, PyData.depthAll]⟩]
    congr 2
    simp only [List.map_cons, List.map_nil]
    rw [PySem.W.dataLt_tuple]
    by_cases z : r = r'
    · rw [PySem.W.dataLt_all_yes (by simp [PySem.W.alike]) (by simp [PyData.eqv, z])]
      by_cases y : l = l'
      · rw [PySem.W.dataLt_all_yes (by simp [PySem.W.alike]) (by simp [PyData.eqv, y])]
        have q : e < e' := by simp only [lexLt] at h; omega
        have ne : e ≠ e' := by omega
        rw [PySem.W.dataLt_all_no (by simp [PySem.W.alike]) (by simp [PyData.eqv, ne]), PySem.W.dataLt_int]
        exact decide_eq_true q
      · have q : l < l' := by simp only [lexLt] at h; omega
        rw [PySem.W.dataLt_all_no (by simp [PySem.W.alike]) (by simp [PyData.eqv, y]), PySem.W.dataLt_int]
        exact decide_eq_true q
    · have q : r < r' := by simp only [lexLt] at h; omega
      rw [PySem.W.dataLt_all_no (by simp [PySem.W.alike]) (by simp [PyData.eqv, z]), PySem.W.dataLt_int]
      exact decide_eq_true q
theorem rising_eq {us : List U} (hl : us.length ≤ 1000000) (h : ∀ (i : Nat) (a b : U), us[i]? = some a → us[i + 1]? = some b → ltU a b = some (.bl true)) : m_are_rising (.tup us) = .ret (.bl true) := by
  have sz : (1000000 : Nat) ≤ sizeLine := by decide
  unfold m_are_rising
  have hz : zipW (.ret (.tup us)) (slW (.ret (.tup us)) (someP (.ret (.int 1))) noP) = .ret (zipL us (us.drop 1)) := by
    show M.o (some (zipL us (EL.cut us (some ((1 : Nat) : Int)) none))) = _
    rw [EL.cut_from]; rfl
  have key : op1 allU (lcW (zipW (.ret (.tup us)) (slW (.ret (.tup us)) (someP (.ret (.int 1))) noP)) (fun e => un2 e fun a b => .ret true) fun e => un2 e fun a b => op2 ltU (.ret a) (.ret b)) = .ret (.bl true) := by
    refine lc_true hz (by rw [zipL_len]; omega) fun u m => ?_
    obtain ⟨i, hi⟩ := List.getElem?_of_mem m
    obtain ⟨x, y, e1, e2, rfl⟩ := zipL_get hi
    rw [List.getElem?_drop, Nat.add_comm] at e2
    refine ⟨rfl, ?_⟩
    show M.o (ltU x y) = _
    rw [h i x y e1 e2]; rfl
  rw [key]; rfl
theorem rise_ints {n : Int} {rs : List Int} (h : Rs n rs) (i : Nat) (a b : U) (ha : (rs.map U.int)[i]? = some a) (hb : (rs.map U.int)[i + 1]? = some b) : ltU a b = some (.bl true) := by
  rw [List.getElem?_map] at ha hb
  obtain ⟨x, ex, rfl⟩ := Option.map_eq_some_iff.mp ha
  obtain ⟨y, ey, rfl⟩ := Option.map_eq_some_iff.mp hb
  have hi := getElem?_lt ex
  have hj := getElem?_lt ey
  have := List.pairwise_iff_getElem.mp h.1 i (i + 1) hi hj (by omega)
  rw [List.getElem?_eq_getElem hi] at ex
  rw [List.getElem?_eq_getElem hj] at ey
  cases ex; cases ey
  show some (U.bl (decide (_ < _))) = _
  rw [decide_eq_true this]
theorem rooms_eq {n : Int} {rs : List Int} (h : Rs n rs) (hl : rs.length ≤ 100000) : m_are_rooms (.int n) (.tup (rs.map .int)) = .ret (.bl true) := by
  have sz : (1000000 : Nat) ≤ sizeLine := by decide
  have e1 : op1 allU (lcW (itW (.ret (.tup (rs.map .int)))) (fun _ => (.ret true)) fun one => (callM (L2' m_is_below) (consA (.ret one) (consA (.ret (.int n)) nilA)))) = .ret (.bl true) := by
    refine lc_true (us := rs.map .int) rfl (by rw [List.length_map]; omega) fun u m => ⟨rfl, ?_⟩
    obtain ⟨r, mr, rfl⟩ := List.mem_map.mp m
    exact below_eq (h.2 r mr).1 (h.2 r mr).2
  have e2 : m_are_rising (.tup (rs.map .int)) = .ret (.bl true) := rising_eq (by rw [List.length_map]; omega) (rise_ints h)
  have e3 : m_are_rising_below (.tup (rs.map .int)) (.int n) = .ret (.bl true) := by
    unfold m_are_rising_below
    rw [e1]
    show fnM (rtO (m_are_rising (.tup (rs.map .int)))) = _
    rw [e2]; rfl
  show fnM (rtO (m_are_rising_below (.tup (rs.map .int)) (.int n))) = _
  rw [e3]; rfl

theorem rise_len : ∀ (rs : List Int) (lo n : Int), rs.Pairwise (· < ·) → (∀ r ∈ rs, lo ≤ r ∧ r < n) → (rs.length : Int) ≤ max 0 (n - lo)
  | [], lo, n, _, _ => by simp; omega
  | r :: rs, lo, n, pw, h => by
    obtain ⟨p1, p2⟩ := List.pairwise_cons.mp pw
    have ih := rise_len rs (r + 1) n p2 fun x m => ⟨by have := p1 x m; omega, (h x (List.mem_cons_of_mem _ m)).2⟩
    have hr := h r List.mem_cons_self
    rw [List.length_cons]
    omega
theorem Rs.len {n : Int} {rs : List Int} (h : Rs n rs) (h0 : 0 ≤ n) : (rs.length : Int) ≤ n := by
  have := rise_len rs 0 n h.1 h.2
  omega
theorem ranks_eq {n : Int} {rk : List Int} (hl : (rk.length : Int) = n) (h1 : n ≤ 1000) (h : ∀ r ∈ rk, 0 ≤ r) : m_are_ranks (.int n) (.tup (rk.map .int)) = .ret (.bl true) := by
  have sz : (1000000 : Nat) ≤ sizeLine := by decide
  unfold m_are_ranks
  have e1 : op1 allU (lcW (itW (.ret (.tup (rk.map .int)))) (fun _ => (.ret true)) fun one => (andW (callM (L1 m_is_whole) (consA (.ret one) nilA)) (op2 geU (.ret one) (.ret (.int 0))))) = .ret (.bl true) := by
    refine lc_true (us := rk.map .int) rfl (by rw [List.length_map]; omega) fun u m => ⟨rfl, ?_⟩
    obtain ⟨r, mr, rfl⟩ := List.mem_map.mp m
    show M.o (some (U.bl (decide (0 ≤ r)))) = _
    rw [decide_eq_true (h r mr)]; rfl
  have e2 : op2 eqU (op1 lenU (.ret (.tup (rk.map .int)))) (.ret (.int n)) = .ret (.bl true) := by
    show M.o (eqU (.int ((rk.map U.int).length : Nat)) (.int n)) = _
    rw [eqU_int, List.length_map, decide_eq_true hl]; rfl
  rw [e1, e2]; rfl
theorem forO_nx {L : Type} {f : U → Unit → M (Out Unit Unit)} : ∀ {us : List U}, (∀ u ∈ us, f u () = nxO ()) → forO (L := L) f us () = nxO ()
  | [], _ => rfl
  | u :: us, h => by
    rw [forO, h u List.mem_cons_self]
    exact forO_nx fun v m => h v (List.mem_cons_of_mem _ m)
theorem neU_int (i j : Int) : neU (.int i) (.int j) = some (.bl (!decide (i = j))) := by
  show neD (.int i) (.int j) = _
  unfold neD
  rw [show pd (.int i) = some (.int i) from rfl, show pd (.int j) = some (.int j) from rfl]
  have h : ∀ i : Int, SeqAt.shaped (.int i) = true := fun i => by simp [SeqAt.shaped, PyData.canLay0, PyData.depth]
  simp only [h, and_self, if_true]
  simp only [PyData.eqv]
  rfl
theorem pairs_eq {n : Int} {ps : List (List Int × List Int)} (h0 : 0 ≤ n) (h1 : n ≤ 1000) (h : ∀ p ∈ ps, Rs n p.1 ∧ Rs n p.2) : m_are_pairs (.int n) (.tup (ps.map pairU)) = .ret (.bl true) := by
  unfold m_are_pairs
  have key : ∀ u ∈ ps.map pairU, (iteW (orT (notT (testW (op1 (isiU · "tuple") (.ret u)))) (orT (testW (op2 neU (op1 lenU (.ret u)) (.ret (.int 2)))) (notT (testW (op1 allU (lcW (itW (.ret u)) (fun _ => (.ret true)) fun part => (callM (L2' m_are_rooms) (consA (.ret (.int n)) (consA (.ret part) nilA))))))))) (rtO (.ret (.bl false))) (nxO ()) : M (Out Unit Unit)) = nxO () := by
    intro u m
    obtain ⟨p, mp, rfl⟩ := List.mem_map.mp m
    have hp := h p mp
    have l1 := hp.1.len h0
    have l2 := hp.2.len h0
    have e1 : op1 allU (lcW (itW (.ret (pairU p))) (fun _ => (.ret true)) fun part => (callM (L2' m_are_rooms) (consA (.ret (.int n)) (consA (.ret part) nilA)))) = .ret (.bl true) := by
      refine lc_true (us := [.tup (p.1.map .int), .tup (p.2.map .int)]) rfl (by decide : 2 ≤ sizeLine) fun u m => ⟨rfl, ?_⟩
      simp only [List.mem_cons, List.not_mem_nil, or_false] at m
      rcases m with rfl | rfl
      · exact rooms_eq hp.1 (by omega)
      · exact rooms_eq hp.2 (by omega)
    rw [e1]
    show iteW (orT (.ret false) (orT (testW (.o (neU (.int 2) (.int 2)))) (.ret false))) _ _ = _
    rw [neU_int]; rfl
  show fnM (seqO (S := Unit) (forO (L := Unit) _ (ps.map pairU) ()) fun _ => rtO (.ret (.bl true))) = _
  rw [forO_nx key]; rfl
theorem ways_eq {n L : Int} {W : List (List Int)} (hW : WOk n L W) (hl : W.length ≤ 1000000) : m_are_ways (.int L) (.int n) (.tup (W.map tupI)) = .ret (.bl true) := by
  unfold m_are_ways
  have e2 : m_are_rising (.tup (W.map tupI)) = .ret (.bl true) := by
    refine rising_eq (by rw [List.length_map]; exact hl) fun i a b ha hb => ?_
    rw [List.getElem?_map] at ha hb
    obtain ⟨x, ex, rfl⟩ := Option.map_eq_some_iff.mp ha
    obtain ⟨y, ey, rfl⟩ := Option.map_eq_some_iff.mp hb
    have hi := getElem?_lt ex
    have hj := getElem?_lt ey
    have := List.pairwise_iff_getElem.mp hW.2 i (i + 1) hi hj (by omega)
    rw [List.getElem?_eq_getElem hi] at ex
    rw [List.getElem?_eq_getElem hj] at ey
    cases ex; cases ey
    exact ltU_row this
  have key : ∀ u ∈ W.map tupI, (seqO (S := Unit) (iteW (orT (notT (testW (op1 (isiU · "tuple") (.ret u)))) (testW (op2 neU (op1 lenU (.ret u)) (.ret (.int 3))))) (rtO (.ret (.bl false))) (nxO ())) fun _ => (iteW (orT (notT (testW (callM (L2' m_is_below) (consA (op2 ixU (.ret u) (.ret (.int 0))) (consA (.ret (.int n)) nilA))))) (orT (notT (testW (callM (L2' m_is_below) (consA (op2 ixU (.ret u) (.ret (.int 1))) (consA (.ret (.int L)) nilA))))) (notT (testW (callM (L2' m_is_below) (consA (op2 ixU (.ret u) (.ret (.int 2))) (consA (.ret (.int n)) nilA))))))) (rtO (.ret (.bl false))) (nxO ())) : M (Out Unit Unit)) = nxO () := by
    intro u m
    obtain ⟨w, mw, rfl⟩ := List.mem_map.mp m
    obtain ⟨r, l, e, rfl, r0, r1, l0, l1, e0, e1⟩ := hW.1 w mw
    show seqO (S := Unit) (iteW (orT (.ret false) (testW (.o (neU (.int 3) (.int 3))))) _ _) (fun _ => iteW (orT (notT (testW (m_is_below (.int r) (.int n)))) (orT (notT (testW (m_is_below (.int l) (.int L)))) (notT (testW (m_is_below (.int e) (.int n)))))) _ _) = _
    rw [neU_int, below_eq r0 r1, below_eq l0 l1, below_eq e0 e1]; rfl
  show fnM (seqO (S := Unit) (forO (L := Unit) _ (W.map tupI) ()) fun _ => rtO (m_are_rising (.tup (W.map tupI)))) = _
  rw [forO_nx key, e2]; rfl


theorem fault_eq {n L s : Int} {W : List (List Int)} {kind : Str} {B : U} (l0 : 1 ≤ L) (l1 : L ≤ 4) (n0 : 1 ≤ n) (n1 : n ≤ 1000) (s0 : 0 ≤ s) (s1 : s < n) (hW : WOk n L W) (hl : W.length ≤ 1000000) (hB : ByOk n kind B) : m_fault_of (.int L) (.int n) (.int s) (.tup (W.map tupI)) (.str kind) B = .ret .non := by
  unfold m_fault_of
  have e1 : chainW leU leU (.ret (.int 1)) (.ret (.int L)) (.ret (.int 4)) = .ret (.bl true) := by
    show M.bind (M.o (boolU (.bl (decide (1 ≤ L))))) (fun k => if k = true then M.o (leU (.int L) (.int 4)) else .ret (.bl false)) = _
    rw [decide_eq_true l0]
    show M.o (some (U.bl (decide (L ≤ 4)))) = _
    rw [decide_eq_true l1]; rfl
  have e2 : op2 ltU (.ret (.int n)) (.ret (.int 1)) = .ret (.bl false) := by
    show M.o (some (U.bl (decide (n < 1)))) = _
    rw [decide_eq_false (by omega)]; rfl
  have e3 : callM (L2' m_is_below) (consA (.ret (.int s)) (consA (.ret (.int n)) nilA)) = .ret (.bl true) := below_eq s0 s1
  have e4 : callM (L3 m_are_ways) (consA (.ret (.int L)) (consA (.ret (.int n)) (consA (.ret (.tup (W.map tupI))) nilA))) = .ret (.bl true) := ways_eq hW hl
  rw [e1, e2, e3, e4]
  cases hB with
  | again h =>
    have e5 := rooms_eq h (by have := h.len (by omega); omega)
    show fnM (rtO (iteW (testW (m_are_rooms _ _)) _ _)) = _
    rw [e5]; rfl
  | last h =>
    have e5 := rooms_eq h (by have := h.len (by omega); omega)
    show fnM (rtO (iteW (testW (m_are_rooms _ _)) _ _)) = _
    rw [e5]; rfl
  | pairs l h =>
    have e5 := pairs_eq (by omega) n1 h
    show fnM (rtO (iteW (testW (m_are_pairs _ _)) _ _)) = _
    rw [e5]; rfl
  | ranks l h =>
    have e5 := ranks_eq l n1 h
    show fnM (rtO (iteW (testW (m_are_ranks _ _)) _ _)) = _
    rw [e5]; rfl

abbrev Dc : Type := List (Int × List Int)
def dKs (D : Dc) : List Key := D.map fun p => Sum.inl p.1
def dVs (D : Dc) : List U := D.map fun p => U.lst (p.2.map .int)
def dU (D : Dc) : U := .dct (dKs D) (dVs D)
def dAdd (l e : Int) : Dc → Dc
  | [] => [(l, [e])]
  | (k, xs) :: r => if k = l then (k, xs ++ [e]) :: r else (k, xs) :: dAdd l e r
def dGet (l : Int) : Dc → List Int
  | [] => []
  | (k, xs) :: r => if k = l then xs else dGet l r
theorem dGet_add (l l' e : Int) : ∀ D : Dc, dGet l (dAdd l' e D) = if l' = l then dGet l D ++ [e] else dGet l D
  | [] => by
    simp only [dAdd, dGet]
    split <;> simp
  | (k, xs) :: r => by
    simp only [dAdd]
    by_cases h : k = l'
    · rw [if_pos h]
      simp only [dGet]
      by_cases h2 : k = l
      · rw [if_pos h2, if_pos h2, if_pos (by omega)]
      · rw [if_neg h2, if_neg h2, if_neg (by omega)]
    · rw [if_neg h]
      simp only [dGet]
      by_cases h2 : k = l
      · rw [if_pos h2, if_pos h2, if_neg (by omega)]
      · rw [if_neg h2, if_neg h2, dGet_add l l' e r]
theorem idx_none {l e : Int} : ∀ {D : Dc}, idxK (Sum.inl l : Key) (dKs D) = none → dAdd l e D = D ++ [(l, [e])] ∧ dGet l D = []
  | [], _ => ⟨rfl, rfl⟩
  | (k, xs) :: r, h => by
    by_cases hk : k = l
    · subst hk
      simp [dKs, idxK] at h
    · have hne : ¬ (Sum.inl k : Key) = Sum.inl l := fun z => hk (Sum.inl.inj z)
      simp only [dKs, List.map_cons, idxK, if_neg hne, Option.map_eq_none_iff] at h
      obtain ⟨h1, h2⟩ := idx_none (e := e) (D := r) h
      simp only [dAdd, dGet, if_neg hk, h1, h2]
      exact ⟨rfl, trivial⟩
theorem idx_some {l e : Int} : ∀ {D : Dc} {j : Nat}, idxK (Sum.inl l : Key) (dKs D) = some j → (dVs D)[j]? = some (.lst ((dGet l D).map .int)) ∧ dKs (dAdd l e D) = dKs D ∧ dVs (dAdd l e D) = (dVs D).set j (.lst ((dGet l D ++ [e]).map .int))
  | [], _, h => by cases h
  | (k, xs) :: r, j, h => by
    by_cases hk : k = l
    · subst hk
      simp only [dKs, List.map_cons, idxK, if_true] at h
      cases h
      simp only [dAdd, dGet, if_true]
      exact ⟨rfl, rfl, rfl⟩
    · have hne : ¬ (Sum.inl k : Key) = Sum.inl l := fun z => hk (Sum.inl.inj z)
      simp only [dKs, List.map_cons, idxK, if_neg hne, Option.map_eq_some_iff] at h
      obtain ⟨i, h1, rfl⟩ := h
      obtain ⟨q1, q2, q3⟩ := idx_some (e := e) (D := r) h1
      simp only [dAdd, dGet, if_neg hk]
      refine ⟨by simpa [dVs] using q1, ?_, ?_⟩
      · show Sum.inl k :: dKs (dAdd l e r) = Sum.inl k :: dKs r
        rw [q2]
      · show U.lst (xs.map .int) :: dVs (dAdd l e r) = _
        rw [q3]; rfl
theorem get_eq (l : Int) (D : Dc) : getD2 (dU D) (.int l) (.lst []) = some (.lst ((dGet l D).map .int)) := by
  unfold getD2 dU
  simp only [getU, keyU]
  cases h : idxK (Sum.inl l : Key) (dKs D) with
  | none => rw [(idx_none (e := 0) h).2]; rfl
  | some j => simp only [(idx_some (e := 0) h).1]; rfl
theorem sd_eq {l e : Int} {D : Dc} (h1 : D.length < 100000) (h2 : (dGet l D).length < 100000) : sdAppU (dU D) (.int l) (.int e) = some (dU (dAdd l e D)) := by
  have sz : (1000000 : Nat) ≤ sizeLine := by decide
  unfold dU
  simp only [sdAppU, keyU]
  rw [if_pos ⟨by simp only [dKs, List.length_map]; omega, rfl⟩]
  cases h : idxK (Sum.inl l : Key) (dKs D) with
  | none =>
    simp only
    rw [(idx_none (e := e) h).1]
    simp [dKs, dVs]
  | some j =>
    obtain ⟨q1, q2, q3⟩ := idx_some (e := e) h
    simp only [q1]
    rw [if_pos ⟨by rw [List.length_map]; omega, leaf_ints _⟩, q2, q3]
    simp

def oneEnd (r l : Int) : List Int → Option Int
  | [r', l', e] => if r' = r ∧ l' = l then some e else none
  | _ => none
def endsOf (W : List (List Int)) (r l : Int) : List Int := W.filterMap (oneEnd r l)
def hNames : List Str := ["letters", "rooms", "start", "ways", "kind", "by", "goals"]
def hallObj (L n s : Int) (W : List (List Int)) (kind : Str) (B : U) (G : List Dc) : U := .obj "Hall" hNames [.int L, .int n, .int s, .tup (W.map tupI), .str kind, B, .lst (G.map dU)]
structure GOk (n : Int) (W : List (List Int)) (G : List Dc) : Prop where
  len : (G.length : Int) = n
  at_ : ∀ (r : Nat) (D : Dc), G[r]? = some D → D.length ≤ W.length ∧ ∀ l : Int, dGet l D = endsOf W r l
theorem ends_len (W : List (List Int)) (r l : Int) : (endsOf W r l).length ≤ W.length := List.length_filterMap_le _ _
theorem ends_snoc (W : List (List Int)) (a b e r l : Int) : endsOf (W ++ [[a, b, e]]) r l = if a = r ∧ b = l then endsOf W r l ++ [e] else endsOf W r l := by
  unfold endsOf
  rw [List.filterMap_append]
  by_cases h : a = r ∧ b = l
  · simp [oneEnd, h]
  · simp [oneEnd, h]
theorem dAdd_len (l e : Int) : ∀ D : Dc, (dAdd l e D).length ≤ D.length + 1
  | [] => by simp [dAdd]
  | (k, xs) :: r => by
    simp only [dAdd]
    split
    · simp
    · have := dAdd_len l e r
      simp only [List.length_cons]
      omega
theorem gok_snoc {n a b e : Int} {W : List (List Int)} {G : List Dc} {D : Dc} (h : GOk n W G) (ha : 0 ≤ a) (hD : G[a.toNat]? = some D) : GOk n (W ++ [[a, b, e]]) (G.set a.toNat (dAdd b e D)) := by
  refine ⟨by rw [List.length_set]; exact h.len, fun r D' e' => ?_⟩
  rw [List.length_append]
  by_cases hr : a.toNat = r
  · subst hr
    rw [List.getElem?_set_self (getElem?_lt hD)] at e'
    cases e'
    obtain ⟨h1, h2⟩ := h.at_ _ D hD
    refine ⟨by have := dAdd_len b e D; simp; omega, fun l => ?_⟩
    rw [dGet_add, ends_snoc, h2 l]
    have : ((a.toNat : Nat) : Int) = a := by omega
    rw [this]
    by_cases hb : b = l
    · rw [if_pos hb, if_pos ⟨rfl, hb⟩]
    · rw [if_neg hb, if_neg fun z => hb z.2]
  · rw [List.getElem?_set_ne hr] at e'
    obtain ⟨h1, h2⟩ := h.at_ r D' e'
    refine ⟨by omega, fun l => ?_⟩
    rw [ends_snoc, if_neg (by omega), h2 l]
theorem ixC_at {i j : Nat} {us : List U} {u : U} {f : U → U} (h : us[j]? = some u) : ixC (i, (.lst us, f)) (.int (j : Nat)) = some (i, (u, fun x => f (.lst (us.set j x)))) := by
  have hl := getElem?_lt h
  simp only [ixC, ixH]
  rw [show ixN us.length ((j : Nat) : Int) = some j from by unfold ixN; rw [if_pos (by omega), if_pos (by omega)]; rfl]
  simp only [h]
  rfl
theorem by_leaf {n : Int} {kind : Str} {B : U} (h : ByOk n kind B) : leafO B = some B := by cases h <;> rfl

theorem nlA_map {α : Type} {f : α → U} (h : ∀ a, nlU (f a) = true) : ∀ l : List α, nlA (l.map f) = true
  | [] => rfl
  | a :: l => by simp [nlA, h a, nlA_map h l]
theorem nl_ints (l : List Int) : nlA (l.map U.int) = true := nlA_map (fun _ => rfl) l
theorem nl_by {n : Int} {kind : Str} {B : U} (h : ByOk n kind B) : nlU B = true := by
  cases h with
  | again => exact nl_ints _
  | last => exact nl_ints _
  | ranks => exact nl_ints _
  | pairs => exact nlA_map (fun p => by simp [pairU, nlU, nlA, nl_ints]) _
theorem nl_hall {L n s : Int} {W : List (List Int)} {kind : Str} {B : U} {G : List Dc} (hB : ByOk n kind B) : nlU (hallObj L n s W kind B G) = true := by
  have h1 : nlA (W.map tupI) = true := nlA_map (f := tupI) (fun w => show nlA (w.map U.int) = true from nl_ints w) W
  have h2 : nlA (G.map dU) = true := nlA_map (f := dU) (fun D => show nlA (dVs D) = true from nlA_map (f := fun p : Int × List Int => U.lst (p.2.map .int)) (fun p => show nlA (p.2.map U.int) = true from nl_ints p.2) D) G
  simp [hallObj, nlU, nlA, h1, h2, nl_by hB]

theorem loc_at (ms : Sto) (x : U) : locM (.loc ms.length) (ms ++ [x]) = some (.ok (ms.length, (x, id)), ms ++ [x]) := by
  have : (ms ++ [x])[ms.length]? = some x := by simp
  unfold locM
  simp only [this]
theorem put_at (ms : Sto) (x y : U) : putC ms.length y (ms ++ [x]) = some (.ok (), ms ++ [y]) := by
  unfold putC
  rw [if_pos (by simp)]
  simp
theorem wp_loc {ms : Sto} {x : U} {Q : Cl → Sto → Prop} (q : Q (ms.length, (x, id)) (ms ++ [x])) : Wp (locM (.loc ms.length)) (ms ++ [x]) Q := .eq (loc_at ms x) q
theorem wp_put {ms : Sto} {x y : U} {Q : Unit → Sto → Prop} (q : Q () (ms ++ [y])) : Wp (putC ms.length y) (ms ++ [x]) Q := .eq (put_at ms x y) q
theorem init_ok {ms : Sto} {n L s : Int} {W : List (List Int)} {kind : Str} {B : U} (l0 : 1 ≤ L) (l1 : L ≤ 4) (n0 : 1 ≤ n) (n1 : n ≤ 1000) (s0 : 0 ≤ s) (s1 : s < n) (hW : WOk n L W) (hl : W.length < 50000) (hB : ByOk n kind B) :
    Wp (m_Hall___init__ (.loc ms.length) (.int L) (.int n) (.int s) (.tup (W.map tupI)) (.str kind) B) (ms ++ [.obj "Hall" [] []]) fun u st => ∃ G : List Dc, u = .non ∧ st = ms ++ [hallObj L n s W kind B G] ∧ GOk n W G := by
  have sz : (1000000 : Nat) ≤ sizeLine := by decide
  unfold m_Hall___init__
  refine .fn (.bind (wp_ret (w := callM (L6 m_fault_of) _) (fault_eq l0 l1 n0 n1 s0 s1 hW (by omega) hB) (.seq (.ite (.test (.bind (.ret (.ret ⟨_, rfl, ?_⟩))))))))
  show Wp (nxO ()) _ _
  refine .nx ?_
  refine .bind (.bind (.ret (.o rfl (.bind (wp_loc (.bind (.o rfl (.bind (wp_put ?_)))))))))
  refine .bind (.bind (.ret (.o rfl (.bind (wp_loc (.bind (.o rfl (.bind (wp_put ?_)))))))))
  refine .bind (.bind (.ret (.o rfl (.bind (wp_loc (.bind (.o rfl (.bind (wp_put ?_)))))))))
  refine .bind (.bind (.ret (.o rfl (.bind (wp_loc (.bind (.o rfl (.bind (wp_put ?_)))))))))
  refine .bind (.bind (.ret (.o rfl (.bind (wp_loc (.bind (.o rfl (.bind (wp_put ?_)))))))))
  refine .bind (.bind (.ret (.o (by_leaf hB) (.bind (wp_loc (.bind (.o rfl (.bind (wp_put ?_)))))))))
  refine .bind (.lc (wp_rng (by omega) (by omega) (wp_ret (comp_map (f := fun _ => .dct [] []) fun u m => ⟨rfl, rfl⟩) ⟨by rw [List.length_map, List.length_map, List.length_range]; omega, ?_⟩)))
  rw [show List.map (fun _ => U.dct [] []) ((List.range n.toNat).map fun i => U.int (i : Nat)) = (List.replicate n.toNat ([] : Dc)).map dU from by rw [List.map_const', List.map_replicate, List.length_map, List.length_range]; rfl]
  refine .bind (wp_loc (.bind (.o rfl (.bind (wp_put ?_)))))
  refine .seq (.bind (.eq (a := W.map tupI) (s := ms ++ [hallObj L n s W kind B (List.replicate n.toNat [])]) rfl (Wp.for (fun i _ st => ∃ G : List Dc, st = ms ++ [hallObj L n s W kind B G] ∧ GOk n (W.take i) G) ⟨_, rfl, ?_⟩ ?_ ?_)))
  · refine ⟨by rw [List.length_replicate]; omega, fun r D e => ?_⟩
    have : D = [] := by
      have := List.mem_of_getElem? e
      exact (List.mem_replicate.mp this).2
    subst this
    exact ⟨by simp, fun l => rfl⟩
  · rintro i u _ st e ⟨G, rfl, hG⟩
    rw [List.getElem?_map] at e
    obtain ⟨w, ew, rfl⟩ := Option.map_eq_some_iff.mp e
    obtain ⟨a, b, c, rfl, a0, a1, b0, b1, c0, c1⟩ := hW.1 w (List.mem_of_getElem? ew)
    have hi := getElem?_lt ew
    have hlen := hG.len
    have ha : a.toNat < G.length := by omega
    have hD : G[a.toNat]? = some G[a.toNat] := List.getElem?_eq_getElem ha
    generalize G[a.toNat] = D at hD
    obtain ⟨d1, d2⟩ := hG.at_ _ D hD
    have d3 := ends_len (W.take i) a.toNat b
    rw [List.length_take] at d1 d3
    have ea : ((a.toNat : Nat) : Int) = a := by omega
    show Wp (M.bind _ _) _ _
    refine Wp.bind (Wp.bind (Wp.bind (Wp.bind (Wp.ret (wp_loc (Wp.o (a := (ms.length, (U.lst (G.map dU), fun x => U.obj "Hall" hNames [.int L, .int n, .int s, .tup (W.map tupI), .str kind, B, x]))) rfl ?_))))))
    refine Wp.bind (Wp.ret (Wp.o (a := (ms.length, (dU D, fun x => .obj "Hall" hNames [.int L, .int n, .int s, .tup (W.map tupI), .str kind, B, .lst ((G.map dU).set a.toNat x)]))) ?_ ?_))
    rotate_left
    refine Wp.bind (Wp.ret (Wp.bind (Wp.o (sd_eq (by omega) (by rw [d2]; omega)) (Wp.bind (wp_put (Wp.nx ⟨G.set a.toNat (dAdd b c D), ?_, ?_⟩))))))
    rotate_right
    · rw [← ea, ixC_at (by rw [List.getElem?_map, hD]; rfl), ea]
    · unfold hallObj
      rw [List.map_set]
    · rw [List.take_add_one, ew]
      exact gok_snoc hG a0 hD
  · rintro _ st ⟨G, rfl, hG⟩
    rw [List.length_map, List.take_length] at hG
    exact .nx ⟨G, rfl, rfl, hG⟩
theorem mk_at {st : Sto} {n L s : Int} {W : List (List Int)} {kind : Str} {B : U} (l0 : 1 ≤ L) (l1 : L ≤ 4) (n0 : 1 ≤ n) (n1 : n ≤ 1000) (s0 : 0 ≤ s) (s1 : s < n) (hW : WOk n L W) (hl : W.length < 50000) (hB : ByOk n kind B) {wa : M (List U)} {Q : U → Sto → Prop}
    (ha : Wp wa st fun us s' => us = [.int L, .int n, .int s, .tup (W.map tupI), .str kind, B] ∧ ∀ G : List Dc, GOk n W G → Q (hallObj L n s W kind B G) s') : Wp (mkM "Hall" (L7 m_Hall___init__) wa) st Q := by
  obtain ⟨us, s', e1, rfl, q⟩ := ha
  have hl' : (opq s').length = s'.length := by unfold opq; rw [List.length_map, List.length_range]
  obtain ⟨u, st', e, G, rfl, rfl, hG⟩ := init_ok (ms := opq s') l0 l1 n0 n1 s0 s1 hW hl hB
  refine ⟨_, s', ?_, q G hG⟩
  refine Eq.trans (M.bind_of e1) ?_
  rw [hl'] at e
  have hx : (opq s' ++ [hallObj L n s W kind B G])[s'.length]? = some (hallObj L n s W kind B G) := by rw [← hl']; simp
  show (match m_Hall___init__ (.loc s'.length) (.int L) (.int n) (.int s) (.tup (W.map tupI)) (.str kind) B (opq s' ++ [.obj "Hall" [] []]) with
      | some (.ok .non, st') => match st'[s'.length]? with
        | some u => if nlU u = true then some (Res.ok u, s') else none
        | none => none
      | _ => none) = _
  rw [e]
  simp only [hx]
  rw [if_pos (nl_hall hB)]

def rngI (n : Int) : List Int := (List.range n.toNat).map fun i : Nat => (i : Int)
theorem rngI_map (n : Int) : ((List.range n.toNat).map fun i => U.int (i : Nat)) = (rngI n).map .int := by unfold rngI; rw [List.map_map]; rfl
theorem mem_rngI {n x : Int} : x ∈ rngI n ↔ 0 ≤ x ∧ x < n := by
  unfold rngI
  rw [List.mem_map]
  constructor
  · rintro ⟨i, m, rfl⟩; have := List.mem_range.mp m; omega
  · rintro ⟨h0, h1⟩; exact ⟨x.toNat, List.mem_range.mpr (by omega), by omega⟩
theorem rngI_pw (n : Int) : (rngI n).Pairwise (· < ·) := by
  unfold rngI
  exact List.pairwise_map.mpr (List.pairwise_lt_range.imp fun h => by omega)
theorem atI_nat {α : Type} {us : List α} {j : Nat} {u : α} (h : us[j]? = some u) : atI us (j : Int) = some u := by
  have := getElem?_lt h
  unfold atI ixN
  rw [if_pos (by omega), if_pos (by omega)]
  exact h

def pick' (m : Nat) (p : Nat → Bool) : List Int := ((List.range m).filter p).map fun i : Nat => (i : Int)
def evens (rk : List Int) : List Int := sortD (rk.filter fun r => decide (r.fmod 2 = 0))
def rkPairs (rk : List Int) : List (List Int × List Int) := (evens rk).map fun r => (pick' rk.length fun i => decide (r < rk.getD i 0), pick' rk.length fun i => decide (rk.getD i 0 = r))
inductive POf (n : Int) : Str → U → List (List Int × List Int) → Prop where
  | again {rs : List Int} (h : Rs n rs) : POf n "again" (.tup (rs.map .int)) [([], rs)]
  | last {rs : List Int} (h : Rs n rs) : POf n "at last" (.tup (rs.map .int)) [((rngI n).filter (fun r => !decide (r ∈ rs)), rngI n)]
  | pairs {ps : List (List Int × List Int)} (h : ∀ p ∈ ps, Rs n p.1 ∧ Rs n p.2) : POf n "pairs" (.tup (ps.map pairU)) ps
  | ranks {rk : List Int} (l : (rk.length : Int) = n) (h : ∀ r ∈ rk, 0 ≤ r) : POf n "ranks" (.tup (rk.map .int)) (rkPairs rk)
theorem rngI_len (n : Int) : (rngI n).length = n.toNat := by unfold rngI; rw [List.length_map, List.length_range]
def Bx (ms : Sto) (n : Nat) (st : Sto) : Prop := ∃ a b c : Int, st = ms ++ [.lst [.int a, .int b, .int c]] ∧ 0 ≤ b ∧ b < 2305843009213693951 ∧ 0 ≤ c ∧ c ≤ n
theorem Bx.up {ms : Sto} {n m : Nat} {st : Sto} (h : Bx ms n st) (l : n ≤ m) : Bx ms m st := by
  obtain ⟨a, b, c, e, h1, h2, h3, h4⟩ := h
  exact ⟨a, b, c, e, h1, h2, h3, by omega⟩
section
variable {ms : Sto} {a b c : Int}
abbrev bxS (ms : Sto) (a b c : Int) : Sto := ms ++ [.lst [.int a, .int b, .int c]]
abbrev ixB (ms : Sto) (i : Int) : M U := .bind (.bind (.bind (.ret (.loc ms.length)) locM) fun c => .bind (.ret (.int i)) fun n => .o (ixC c n)) fun c => .o (valC c)
theorem wp_b0 {Q : U → Sto → Prop} (q : Q (.int a) (bxS ms a b c)) : Wp (ixB ms 0) (bxS ms a b c) Q := .bind (.bind (.bind (.ret (wp_loc (.bind (.ret (.o rfl (.o rfl q))))))))
theorem wp_b1 {Q : U → Sto → Prop} (q : Q (.int b) (bxS ms a b c)) : Wp (ixB ms 1) (bxS ms a b c) Q := .bind (.bind (.bind (.ret (wp_loc (.bind (.ret (.o rfl (.o rfl q))))))))
theorem wp_b2 {Q : U → Sto → Prop} (q : Q (.int c) (bxS ms a b c)) : Wp (ixB ms 2) (bxS ms a b c) Q := .bind (.bind (.bind (.ret (wp_loc (.bind (.ret (.o rfl (.o rfl q))))))))
end
theorem take_ok {ms : Sto} {n : Nat} {m : Int} {st : Sto} (h : Bx ms n st) (hn : n < 1000000000) (h0 : 0 < m) (h1 : m < 1000000000) : Wp (m__law_take (.loc ms.length) (.int m)) st fun u s => ∃ k : Int, u = .int k ∧ 0 ≤ k ∧ k < m ∧ Bx ms (n + 1) s := by
  obtain ⟨a, b, c, rfl, b0, b1, c0, c1⟩ := h
  unfold m__law_take
  refine .fn (.seq (.ite (.test (.op2 (wp_b0 (.ret ⟨_, rfl, _, rfl, ?_⟩))))))
  by_cases ha : a > 0
  · rw [decide_eq_true ha]
    simp only [if_true]
    refine .bind (.op2 (wp_b0 (.ret ⟨_, mod_at (by omega), ?_⟩)))
    refine .bind (.op2 (wp_b0 (.ret ⟨_, fdiv_at (by omega) (by omega), ?_⟩)))
    refine .bind (.bind (.ret (wp_loc (.bind (.ret (.bind (.o rfl (.bind (wp_put (.rt (.ret ?_))))))))))) 
    exact ⟨_, rfl, Int.fmod_nonneg_of_pos _ h0, Int.fmod_lt_of_pos _ h0, _, b, c, rfl, b0, b1, c0, by omega⟩
  · rw [decide_eq_false ha]
    simp only [Bool.false_eq_true, if_false]
    refine .nx ?_
    refine .bind (.op2 (wp_b2 (.ret ⟨.int (c + 1), rfl, ?_⟩)))
    refine .bind (.bind (.ret (wp_loc (.bind (.ret (.bind (.o rfl (.bind (wp_put ?_))))))))) 
    show Wp _ (bxS ms a b (c + 1)) _
    generalize ec : c + 1 = d
    have m1 : L2.CMul 65537 d := .inl (by omega)
    have m2 : L2.CMul (65537 * d) d := .inr (by omega)
    have m3 : L2.CMul (b + 65537 * d * d + 11) 48271 := .inr (by omega)
    refine .bind (.op2 (.op2 (.op2 (.op2 (wp_b1 (.op2 (.op2 (.ret (wp_b2 ⟨_, mul_at m1, wp_b2 ⟨_, mul_at m2, ⟨_, rfl, .ret ⟨_, rfl, .ret ⟨_, mul_at m3, .ret ⟨_, mod_at (by decide), ?_⟩⟩⟩⟩⟩⟩)))))))))
    generalize ex : ((b + 65537 * d * d + 11) * 48271).fmod 2305843009213693921 = x
    have x0 : 0 ≤ x := by rw [← ex]; exact Int.fmod_nonneg_of_pos _ (by decide)
    have x1 : x < 2305843009213693921 := by rw [← ex]; exact Int.fmod_lt_of_pos _ (by decide)
    have m4 : L2.CMul 99991 d := .inl (by omega)
    have m5 : L2.CMul x (x.fmod 1000003 + 99991 * d) := .inl (by omega)
    refine .bind (.op2 (.op2 (.ret (.op2 (.op2 (.ret (.ret ⟨_, mod_at (by decide), .op2 (.ret (wp_b2 ⟨_, mul_at m4, ⟨_, rfl, ⟨_, mul_at m5, .ret ⟨_, mod_at (by decide), ?_⟩⟩⟩⟩))⟩)))))))
    refine .rt (.op2 (.op2 (.op2 (.ret (.ret ⟨_, fdiv_at (by decide) (by decide), .op2 (.ret (.ret ⟨_, fdiv_at (by decide) (by decide), ⟨_, rfl, .ret ⟨_, mod_at (by omega), ?_⟩⟩⟩))⟩)))))
    exact ⟨_, rfl, Int.fmod_nonneg_of_pos _ h0, Int.fmod_lt_of_pos _ h0, a, b, d, rfl, b0, b1, by omega, by omega⟩
theorem wp_take {ms : Sto} {n : Nat} {m : Int} {st : Sto} {Q : U → Sto → Prop} (h : Bx ms n st) (hn : n < 1000000000) (h0 : 0 < m) (h1 : m < 1000000000) (k : ∀ (k : Int) (s : Sto), 0 ≤ k → k < m → Bx ms (n + 1) s → Q (.int k) s) : Wp (callM (L2' m__law_take) (consA (.ret (.loc ms.length)) (consA (.ret (.int m)) nilA))) st Q :=
  .call (.consA (.ret (.consA (.ret (.nilA ((take_ok h hn h0 h1).mono fun _ s ⟨a, e, a0, a1, hs⟩ => e ▸ k a s a0 a1 hs))))))
theorem tk {ms : Sto} {n : Nat} {m : Int} {st : Sto} {Q : U → Sto → Prop} (h : Bx ms n st) (hn : n < 1000000000) (h0 : 0 < m) (h1 : m < 1000000000) (k : ∀ (k : Int) (s : Sto), 0 ≤ k → k < m → Bx ms (n + 1) s → Q (.int k) s) : Wp (m__law_take (.loc ms.length) (.int m)) st Q :=
  (take_ok h hn h0 h1).mono fun _ s ⟨a, e, a0, a1, hs⟩ => e ▸ k a s a0 a1 hs
theorem hand_ok {ms : Sto} {ns : List Int} {k : Nat} (hl : ns.length ≤ 63) (hk : k ≤ 63) : Wp (m__law_box (.frl (ns.map .int)) (.int (k : Nat))) ms fun u st => u = .loc ms.length ∧ Bx ms 0 st := by
  unfold m__law_box
  refine .fn (.bind (Wp.mono (Q := fun u s => s = ms ∧ ∃ c : Int, u = .int c) ?_ ?_))
  · walk_at "v"
    refine if_dec (fun h => ?_) fun h => ?_
    · have h' : k < ns.length := by rw [List.length_map] at h; omega
      walk_at "v"
      refine wo_eq (a := U.int ns[k]) ?_ ?_
      · show atI (ns.map U.int) _ = _
        unfold atI ixN
        rw [if_pos (by omega), if_pos (by rw [List.length_map]; omega)]
        simp [h']
      · exact ⟨rfl, _, rfl⟩
    · walk_at "v"
      exact ⟨rfl, 0, rfl⟩
  · rintro _ ms ⟨rfl, c, rfl⟩
    have m1 : L2.CMul 7919 (k : Int) := .inl (by omega)
    have m2 : L2.CMul (7919 * (k : Int)) k := .inr (by omega)
    have m3 : L2.CMul (c.fmod 2305843009213693951 + 7919 * (k : Int) * k + 3) 48271 := .inr (by omega)
    refine .bind (.op2 (.op2 (.op2 (.op2 (.op2 (.ret (.ret ⟨_, mod_at (by decide), .op2 (.op2 (.ret (.ret ⟨_, mul_at m1, .ret ⟨_, mul_at m2, ⟨_, rfl, .ret ⟨_, rfl, .ret ⟨_, mul_at m3, .ret ⟨_, mod_at (by decide), ?_⟩⟩⟩⟩⟩⟩)))⟩)))))))
    refine .rt (.bind (.lst (.consA (.bind (Wp.mono (Q := fun u s => s = ms ∧ ∃ c : Int, u = .int c) ?_ ?_)))))
    · walk_at "v"
      refine wo_eq (a := U.int (if c < 0 then -c else c)) rfl ?_
      walk_at "v"
      refine wo_eq (pow_at (i := 10) (j := 18) ⟨by decide, by decide, by decide⟩) ?_
      walk_at "v"
      refine if_any (fun h => ?_) fun h => ?_
      · walk_at "v"
        refine wo_eq (a := U.int (if c < 0 then -c else c)) rfl ?_
        exact ⟨rfl, _, rfl⟩
      · walk_at "v"
        exact ⟨rfl, _, rfl⟩
    · rintro _ ms ⟨rfl, c', rfl⟩
      refine .o rfl (.consA (.bind (.ret (.o rfl (.consA (.bind (.ret (.o rfl (.nilA ⟨(by decide : 3 ≤ sizeLine), .bind (.o rfl ⟨_, _, rfl, rfl, c', _, 0, rfl, ?_, ?_, by decide, by decide⟩)⟩)))))))))
      · exact Int.fmod_nonneg_of_pos _ (by decide)
      · exact Int.lt_trans (Int.fmod_lt_of_pos _ (by decide)) (by decide)
theorem flt_ok {ms : Sto} {n : Nat} {r : Int} {st : Sto} {wt : U → M Bool} {we : U → M U} {f : Int → U} (h : Bx ms n st) (r0 : 0 ≤ r) (r1 : r ≤ 1000) (he : ∀ i : Int, we (.int i) = .ret (f i)) (ht : ∀ (i : Nat) (m : Nat) (st : Sto), (i : Int) < r → m ≤ n + i → Bx ms m st → Wp (wt (.int (i : Nat))) st fun b s => Bx ms (m + 1) s) {Q : U → Sto → Prop}
    (k : ∀ (rs : List Int) (s : Sto), Rs r rs → rs.length ≤ r.toNat → Bx ms (n + r.toNat) s → Q (.lst (rs.map f)) s) : Wp (lcW (rng1W (.ret (.int r))) wt we) st Q := by
  have sz : (100000 : Nat) ≤ sizeLine := by decide
  refine .lc (wp_rng r0 (by omega) (vs_compN (d := f) (fun i rs st => rs.Pairwise (· < ·) ∧ (∀ x ∈ rs, 0 ≤ x ∧ x < (i : Int) ∧ x < r) ∧ rs.length ≤ i ∧ Bx ms (n + i) st) ⟨.nil, by simp, Nat.le_refl _, h⟩ ?_ ?_))
  · rintro i rs st hi ⟨pw, hb, hl, hd⟩
    refine (ht i _ st (by omega) (Nat.le_refl _) hd).mono fun b s hs => ?_
    cases b with
    | true =>
      show Wp _ _ _
      rw [he]
      refine .ret ⟨i, rfl, ?_, ?_, by simpa using hl, hs⟩
      · rw [List.pairwise_append]
        exact ⟨pw, List.pairwise_singleton _ _, fun a ha b hb' => by rw [List.mem_singleton.mp hb']; exact (hb a ha).2.1⟩
      · intro x m
        rcases List.mem_append.mp m with m | m
        · have := hb x m; omega
        · rw [List.mem_singleton.mp m]; omega
    | false => exact ⟨pw, fun x m => by have := hb x m; omega, by omega, hs⟩
  · rintro rs st ⟨pw, hb, hl, hd⟩
    exact ⟨by rw [List.length_map]; omega, k rs st ⟨pw, fun x m => ⟨(hb x m).1, (hb x m).2.2⟩⟩ hl hd⟩
theorem rooms_ok {ms : Sto} {n : Nat} {r : Int} {st : Sto} {Q : U → Sto → Prop} (h : Bx ms n st) (hn : n < 10000000) (r0 : 0 ≤ r) (r1 : r ≤ 20) (k : ∀ (rs : List Int) (s : Sto), Rs r rs → Bx ms (n + 21) s → Q (.tup (rs.map .int)) s) : Wp (m__law_rooms (.loc ms.length) (.int r)) st Q := by
  unfold m__law_rooms
  refine .fn (.rt (.op1 (flt_ok (f := U.int) h r0 (by omega) (fun _ => rfl) ?_ fun rs s hr hl hs => ⟨_, rfl, k rs s hr (hs.up (by omega))⟩)))
  intro i m st hi hm hb
  exact .test (.op2 (wp_take hb (by omega) (by decide) (by decide) fun v s _ _ hs => .ret ⟨_, eqU_int _ _, _, rfl, hs⟩))
theorem bools_map : ∀ bs : List Bool, boolsU (bs.map U.bl) = some bs
  | [] => rfl
  | b :: bs => by rw [List.map_cons, boolsU, bools_map bs]; rfl
theorem any_at (bs : List Bool) : anyU (.lst (bs.map .bl)) = some (.bl (bs.any id)) := by
  show (boolsU (bs.map .bl)).map _ = _
  rw [bools_map]; rfl
inductive Alk : List (List Int × List Int) → List (List Int × List Int) → Prop where
  | nil : Alk [] []
  | cons {a b w : List Int} {c d : List (List Int × List Int)} (h : ∀ x, x ∈ w → (x ∈ a ↔ x ∈ b)) (r : Alk c d) : Alk ((a, w) :: c) ((b, w) :: d)
theorem Alk.refl : ∀ c : List (List Int × List Int), Alk c c
  | [] => .nil
  | (_, _) :: c => .cons (fun _ _ => Iff.rfl) (Alk.refl c)
def kD (ks : List Int) : U := .dct (ks.map .inl) (ks.map fun _ => .bl true)
structure NOk (N : List (List Int)) (k : Nat) : Prop where
  l : N.length ≤ 40
  rg : ∀ r ∈ N, ∀ x ∈ r, 0 ≤ x ∧ x < (N.length : Int)
  rl : ∀ r ∈ N, r.length ≤ k
inductive RtE {α : Type} (E : α → α → Prop) (a : α) : α → Prop
  | refl : RtE E a a
  | step {b c : α} : RtE E a b → E b c → RtE E a c
inductive TcE {α : Type} (E : α → α → Prop) : α → α → Prop
  | one {a b : α} : E a b → TcE E a b
  | cons {a b c : α} : E a b → TcE E b c → TcE E a c
section
variable {α : Type} {E F : α → α → Prop}
theorem TcE.trans {a b c : α} (h : TcE E a b) (k : TcE E b c) : TcE E a c := by
  induction h with
  | one e => exact .cons e k
  | cons e _ ih => exact .cons e (ih k)
theorem TcE.snoc {a b c : α} (h : TcE E a b) (k : E b c) : TcE E a c := h.trans (.one k)
theorem TcE.mono {a b : α} (h : TcE E a b) (k : ∀ x y, E x y → F x y) : TcE F a b := by
  induction h with
  | one e => exact .one (k _ _ e)
  | cons e _ ih => exact .cons (k _ _ e) ih
theorem TcE.last {a b : α} (h : TcE E a b) : ∃ c, E c b := by
  induction h with
  | one e => exact ⟨_, e⟩
  | cons _ _ ih => exact ih
theorem RtE.trans {a b c : α} (h : RtE E a b) (k : RtE E b c) : RtE E a c := by
  induction k with
  | refl => exact h
  | step _ e ih => exact .step ih e
theorem RtE.tc {a b c : α} (e : E a b) (h : RtE E b c) : TcE E a c := by
  induction h with
  | refl => exact .one e
  | step _ e2 ih => exact ih.snoc e2
theorem TcE.rt {a c : α} (h : TcE E a c) : RtE E a c := by
  induction h with
  | one e => exact .step .refl e
  | cons e _ ih => exact (RtE.step .refl e).trans ih
theorem TcE.map {β : Type} {F : β → β → Prop} {f : α → β} {a b : α} (h : TcE E a b) (k : ∀ x y, E x y → F (f x) (f y)) : TcE F (f a) (f b) := by
  induction h with
  | one e => exact .one (k _ _ e)
  | cons e _ ih => exact .cons (k _ _ e) ih
theorem RtE.map {β : Type} {F : β → β → Prop} {f : α → β} {a b : α} (h : RtE E a b) (k : ∀ x y, E x y → F (f x) (f y)) : RtE F (f a) (f b) := by
  induction h with
  | refl => exact .refl
  | step _ e ih => exact .step ih (k _ _ e)
theorem TcE.keep {P : α → Prop} (hP : ∀ x y, P x → E x y → P y) {a b : α} (h : TcE E a b) : P a → TcE (fun x y => E x y ∧ P x ∧ P y) a b := by
  induction h with
  | one e => exact fun p => .one ⟨e, p, hP _ _ p e⟩
  | cons e _ ih => exact fun p => .cons ⟨e, p, hP _ _ p e⟩ (ih (hP _ _ p e))
end
structure NOm (N : List (List Int)) (k : Nat) : Prop where
  l : N.length ≤ 250
  rg : ∀ r ∈ N, ∀ x ∈ r, 0 ≤ x ∧ x < (N.length : Int)
  rl : ∀ r ∈ N, r.length ≤ k
structure Cpy (n : Int) (ps : List (List Int × List Int)) (ks : List (Int × Int)) : Prop where
  nd : ks.Nodup
  mem : ∀ a r, (a, r) ∈ ks ↔ 0 ≤ r ∧ r < n ∧ (a = 0 ∨ ∃ (i : Nat) (p : List Int × List Int), a = (i : Int) + 1 ∧ ps[i]? = some p ∧ r ∉ p.1)
  fst : ∀ r : Nat, (r : Int) < n → ks[r]? = some (0, (r : Int))
def kAt (ks : List (Int × Int)) (x : Int) (k : Int × Int) : Prop := 0 ≤ x ∧ ks[x.toNat]? = some k
def Trn (k : Nat) (h t : Int) : Prop := (h = 0 ∧ t = 0) ∨ (1 ≤ t ∧ t ≤ (k : Int) ∧ (h = 0 ∨ h = t))
structure CpW (n : Int) (W : List (List Int)) (ps : List (List Int × List Int)) (ks : List (Int × Int)) (W' : List (List Int)) (mk : List Int) : Prop where
  ways : ∀ a l b, [a, l, b] ∈ W' ↔ ∃ h r t e, [r, l, e] ∈ W ∧ Trn ps.length h t ∧ kAt ks a (h, r) ∧ kAt ks b (t, e)
  marks : ∀ x, x ∈ mk ↔ ∃ (i : Nat) (p : List Int × List Int) (r : Int), ps[i]? = some p ∧ r ∈ p.2 ∧ kAt ks x ((i : Int) + 1, r)
section
variable {L n f : Int} {W W' : List (List Int)} {ps : List (List Int × List Int)} {ks : List (Int × Int)} {mk b c : List Int}
end

theorem comp2_at {τ κ ω : Type} {c : τ → U} {d : κ → U} {q : ω → U} {wt : U → M Bool} {wl : U → M (List U)} {wt1 : U → U → M Bool} {we : U → U → M U} {g : τ → List κ} {p : τ → κ → Bool} {h : τ → κ → ω} : ∀ {xs : List τ}, (∀ x ∈ xs, wt (c x) = .ret true ∧ wl (c x) = .ret ((g x).map d) ∧ ∀ y ∈ g x, wt1 (c x) (d y) = .ret (p x y) ∧ (p x y = true → we (c x) (d y) = .ret (q (h x y)))) → comp2M wt wl wt1 we (xs.map c) = .ret ((xs.flatMap fun x => ((g x).filter (p x)).map (h x)).map q)
  | [], _ => rfl
  | x :: xs, H => by
    obtain ⟨h1, h2, h3⟩ := H x List.mem_cons_self
    have ih := comp2_at (xs := xs) fun y m => H y (List.mem_cons_of_mem _ m)
    rw [List.map_cons, comp2M, h1, M.bind_ret, if_pos rfl, h2, M.bind_ret, comp_eq (c := d) (d := q) (p := p x) (g := h x) h3, M.bind_ret, ih, M.bind_ret, List.flatMap_cons, List.map_append]

def hdT (K : List (List Int)) : U := dTU (fun _ : Unit => .bl true) (K.map fun z => (z, ()))
theorem kfst {ν : Type} (K : List (List Int)) (g : List Int → ν) : (K.map fun z => (z, g z)).map Prod.fst = K := by rw [List.map_map]; exact List.map_id' K
theorem klook {ν : Type} {K : List (List Int)} {g : List Int → ν} {x : List Int} : (K.map fun z => (z, g z)).lookup x = if x ∈ K then some (g x) else none := by
  induction K with
  | nil => rfl
  | cons k K ih =>
    rw [List.map_cons, List.lookup_cons]
    by_cases h : x = k
    · subst h; simp
    · rw [show (x == k) = false from by simpa using h, ih]
      simp [h]
section
variable {K : List (List Int)} {x : List Int} {P : U → Prop}
theorem wo_hdin (h : P (.bl (decide (x ∈ K)))) : WpO (inU (tupI x) (hdT K)) P := wo_dTin (by rw [lookup_isSome, kfst]; exact h)
theorem wo_hdput (hx : x ∉ K) (l : K.length < sizeLine) (h : P (hdT (K ++ [x]))) : WpO (putU (hdT K) (tupI x) (.bl true)) P := by
  refine wo_dTput (vf := fun _ : Unit => U.bl true) (v := ()) (by rw [klook, if_neg hx]) (by rw [List.length_map]; exact l) ?_
  unfold hdT at h
  rw [List.map_append] at h
  exact h
end
theorem dc_setT {wt : U → M Bool} {c : List Int → Bool} : ∀ (xs D : List (List Int)), (∀ x ∈ xs, wt (tupI x) = .ret (c x)) → (D ++ xs).Nodup → D.length + xs.length < sizeLine → dcM wt (fun n => .ret n) (fun _ => .ret (.bl true)) (xs.map tupI) (hdT D) = .ret (hdT (D ++ xs.filter c))
  | [], D, _, _, _ => by rw [List.map_nil, List.filter_nil, List.append_nil]; rfl
  | x :: xs, D, h, nd, l => by
    have hx : x ∉ D := fun m => (List.nodup_append.mp nd).2.2 x m x List.mem_cons_self rfl
    rw [List.map_cons, dcM, h x List.mem_cons_self]
    rw [List.length_cons] at l
    have ndx : (D ++ xs).Nodup := by
      have h3 := List.nodup_append.mp nd
      exact List.nodup_append.mpr ⟨h3.1, (List.nodup_cons.mp h3.2.1).2, fun a ma b mb => h3.2.2 a ma b (List.mem_cons_of_mem _ mb)⟩
    cases hc : c x with
    | false =>
      rw [List.filter_cons_of_neg (by rw [hc]; exact fun z => nomatch z)]
      exact dc_setT xs D (fun y m => h y (List.mem_cons_of_mem _ m)) ndx (by omega)
    | true =>
      rw [List.filter_cons_of_pos hc]
      obtain ⟨d', e, hd⟩ : WpO (putU (hdT D) (tupI x) (.bl true)) fun u => u = hdT (D ++ [x]) := wo_hdput hx (by omega) rfl
      subst hd
      show M.bind (.o (putU (hdT D) (tupI x) (.bl true))) (fun d' => dcM _ _ _ (xs.map tupI) d') = _
      rw [e]
      show dcM _ _ _ (xs.map tupI) (hdT (D ++ [x])) = _
      rw [dc_setT xs (D ++ [x]) (fun y m => h y (List.mem_cons_of_mem _ m)) (by simpa using nd) (by rw [List.length_append, List.length_singleton]; omega)]
      simp
theorem dcW_setT {xs : List (List Int)} {wl : M (List U)} {wt : U → M Bool} {c : List Int → Bool} (hl : wl = .ret (xs.map tupI)) (h : ∀ x ∈ xs, wt (tupI x) = .ret (c x)) (nd : xs.Nodup) (l : xs.length < sizeLine) : dcW true wl wt (fun n => .ret n) (fun _ => .ret (.bl true)) = .ret (hdT (xs.filter c)) := by
  subst hl
  exact dc_setT xs [] h (by simpa using nd) (by simpa using l)
def lex2 : List Int → List Int → Prop
  | [i, j], [i', j'] => i < i' ∨ (i = i' ∧ j < j')
  | _, _ => False
def Pr (n : Int) (p : List Int) : Prop := ∃ i j : Int, p = [i, j] ∧ 0 ≤ i ∧ i < n ∧ 0 ≤ j ∧ j < n
theorem ltU_row2 {a b : List Int} (h : lex2 a b) : ltU (tupI a) (tupI b) = some (.bl true) := by
  match a, b, h with
  | [r, l], [r', l'], h =>
    have e0 : ltU (tupI [r, l]) (tupI [r', l']) = (match pd (tupI [r, l]), pd (tupI [r', l']) with
      | some d, some e => if PySem.W.alike d e = true ∧ notNone d = true ∧ d.depth ≤ 64 then some (U.bl (PySem.W.dataLt d e)) else none
      | _, _ => none) := rfl
    rw [e0, pd_row, pd_row]
    simp only
    rw [if_pos ⟨by simp [PySem.W.alike, PySem.W.alikeAll], rfl, by simp [PyData.depth, PyData.depthAll]⟩]
    congr 2
    simp only [List.map_cons, List.map_nil]
    rw [PySem.W.dataLt_tuple]
    by_cases z : r = r'
    · rw [PySem.W.dataLt_all_yes (by simp [PySem.W.alike]) (by simp [PyData.eqv, z])]
      have q : l < l' := by simp only [lex2] at h; omega
      have ne : l ≠ l' := by omega
      rw [PySem.W.dataLt_all_no (by simp [PySem.W.alike]) (by simp [PyData.eqv, ne]), PySem.W.dataLt_int]
      exact decide_eq_true q
    · have q : r < r' := by simp only [lex2] at h; omega
      rw [PySem.W.dataLt_all_no (by simp [PySem.W.alike]) (by simp [PyData.eqv, z]), PySem.W.dataLt_int]
      exact decide_eq_true q
abbrev p0 (p : List Int) : Int := p.getD 0 0
abbrev p1 (p : List Int) : Int := p.getD 1 0
def apR (n : Int) : List (List Int) := (rngI n).flatMap fun i => (rngI n).map fun j => [i, j]
theorem mem_apR {n : Int} {p : List Int} : p ∈ apR n ↔ Pr n p := by
  unfold apR
  rw [List.mem_flatMap]
  constructor
  · rintro ⟨i, mi, h⟩
    obtain ⟨j, mj, rfl⟩ := List.mem_map.mp h
    have := mem_rngI.mp mi
    have := mem_rngI.mp mj
    exact ⟨i, j, rfl, by omega⟩
  · rintro ⟨i, j, rfl, i0, i1, j0, j1⟩
    exact ⟨i, mem_rngI.mpr ⟨i0, i1⟩, List.mem_map.mpr ⟨j, mem_rngI.mpr ⟨j0, j1⟩, rfl⟩⟩
theorem apR_pw (n : Int) : (apR n).Pairwise lex2 := by
  unfold apR
  have key : ∀ is : List Int, is.Pairwise (· < ·) → (is.flatMap fun i => (rngI n).map fun j => [i, j]).Pairwise lex2 := by
    intro is
    induction is with
    | nil => intro _; exact .nil
    | cons i is ih =>
      intro pw
      have pw' := List.pairwise_cons.mp pw
      rw [List.flatMap_cons, List.pairwise_append]
      refine ⟨?_, ih pw'.2, fun a ma b mb => ?_⟩
      · rw [List.pairwise_map]
        exact (rngI_pw n).imp fun h => .inr ⟨rfl, h⟩
      · obtain ⟨j, _, rfl⟩ := List.mem_map.mp ma
        obtain ⟨i', mi', h⟩ := List.mem_flatMap.mp mb
        obtain ⟨j', _, rfl⟩ := List.mem_map.mp h
        exact .inl (pw'.1 i' mi')
  exact key _ (rngI_pw n)
theorem apR_nd (n : Int) : (apR n).Nodup := (apR_pw n).imp_of_mem fun {a b} ma mb h e => by
  subst e
  obtain ⟨i, j, rfl, _⟩ := mem_apR.mp ma
  rcases h with h | ⟨_, h⟩ <;> omega
theorem apR_len (n : Int) : (apR n).length = n.toNat * n.toNat := by
  unfold apR
  have key : ∀ is : List Int, (is.flatMap fun i => (rngI n).map fun j => [i, j]).length = is.length * n.toNat := by
    intro is
    induction is with
    | nil => simp
    | cons i is ih =>
      rw [List.flatMap_cons, List.length_append, ih, List.length_map, rngI_len, List.length_cons, Nat.succ_mul]; omega
  rw [key, rngI_len]
def S0 (n : Int) (rs : List Int) : List (List Int) := (apR n).filter fun p => decide (p1 p ∈ rs) || !decide (p0 p ∈ rs)
def Ans (W : List (List Int)) (S : List (List Int)) (p : List Int) : Prop := ∀ l e, [p0 p, l, e] ∈ W → ∃ e', [p1 p, l, e'] ∈ W ∧ [e, e'] ∈ S
open Classical in
noncomputable def ansB (W S : List (List Int)) (p : List Int) : Bool := decide (Ans W S p)
open Classical in
theorem ansB_iff {W S : List (List Int)} {p : List Int} : ansB W S p = true ↔ Ans W S p := by unfold ansB; exact decide_eq_true_iff
noncomputable def stpS (W S : List (List Int)) : List (List Int) := S.filter (ansB W S)
noncomputable def itS (W S : List (List Int)) : Nat → List (List Int)
  | 0 => S
  | k + 1 => stpS W (itS W S k)
section
variable {W S : List (List Int)} {n : Int}
theorem itS_sub : ∀ k, ∀ p ∈ itS W S k, p ∈ S
  | 0, _, m => m
  | k + 1, p, m => itS_sub k p (List.mem_filter.mp m).1
theorem itS_pw (h : S.Pairwise lex2) : ∀ k, (itS W S k).Pairwise lex2
  | 0 => h
  | k + 1 => (itS_pw h k).filter _
theorem stpS_len : (stpS W S).length ≤ S.length := List.length_filter_le _ _
theorem stpS_same (h : (stpS W S).length = S.length) : stpS W S = S := List.filter_sublist.eq_of_length h
end

theorem ends_eq {L n s : Int} {W : List (List Int)} {kind : Str} {B : U} {G : List Dc} (hG : GOk n W G) {r : Nat} (l : Int) (hr : (r : Int) < n) : m_Hall_ends (hallObj L n s W kind B G) (.int r) (.int l) = .ret (.tup ((endsOf W r l).map .int)) := by
  have hlen := hG.len
  have hl : r < G.length := by omega
  have hD : G[r]? = some G[r] := List.getElem?_eq_getElem hl
  generalize G[r] = D at hD
  show fnM (rtO (M.bind (M.bind (M.o (atI (G.map dU) (r : Int))) fun d => .o (getD2 d (.int l) (.lst []))) (fun a => .o (tupleU a)))) = _
  rw [atI_nat (by rw [List.getElem?_map, hD]; rfl)]
  show fnM (rtO (M.bind (M.o (getD2 (dU D) (.int l) (.lst []))) (fun a => .o (tupleU a)))) = _
  rw [get_eq, (hG.at_ r D hD).2 l]
  rfl
theorem mem_endsD {W : List (List Int)} {r l x : Int} : x ∈ endsOf W r l ↔ [r, l, x] ∈ W := by
  unfold endsOf
  rw [List.mem_filterMap]
  constructor
  · rintro ⟨w, m, e⟩
    match w, e with
    | [a, b, c], e =>
      simp only [oneEnd] at e
      split at e
      · rename_i h
        cases e
        rw [← h.1, ← h.2]; exact m
      · cases e
    | [], e => cases e
    | [_], e => cases e
    | [_, _], e => cases e
    | _ :: _ :: _ :: _ :: _, e => cases e
  · intro m
    exact ⟨_, m, by simp [oneEnd]⟩
theorem endsW_len {W : List (List Int)} {r l : Int} : (endsOf W r l).length ≤ W.length := by
  unfold endsOf
  exact List.length_filterMap_le _ _
def stepsL (W : List (List Int)) (L i : Int) : List (List Int) := (rngI L).flatMap fun l => (endsOf W i l).map fun e => [l, e]
theorem mem_stepsL {W : List (List Int)} {n L i : Int} (hW : WOk n L W) {q : List Int} : q ∈ stepsL W L i ↔ ∃ l e, q = [l, e] ∧ [i, l, e] ∈ W := by
  unfold stepsL
  rw [List.mem_flatMap]
  constructor
  · rintro ⟨l, ml, h⟩
    obtain ⟨e, me, rfl⟩ := List.mem_map.mp h
    exact ⟨l, e, rfl, mem_endsD.mp me⟩
  · rintro ⟨l, e, rfl, h⟩
    obtain ⟨a, b, c, ew, a0, a1, b0, b1, c0, c1⟩ := hW.1 _ h
    cases ew
    exact ⟨l, mem_rngI.mpr ⟨b0, b1⟩, List.mem_map.mpr ⟨e, mem_endsD.mpr h, rfl⟩⟩
theorem ends_i {L n s : Int} {W : List (List Int)} {kind : Str} {B : U} {G : List Dc} (hG : GOk n W G) {r : Int} (l : Int) (r0 : 0 ≤ r) (hr : r < n) : m_Hall_ends (hallObj L n s W kind B G) (.int r) (.int l) = .ret (.tup ((endsOf W r l).map .int)) := by
  obtain ⟨r, rfl⟩ := Int.eq_ofNat_of_zero_le r0
  exact ends_eq hG l hr
section
variable {L n f : Int} {W : List (List Int)} {kind : Str} {B : U} {G : List Dc} {rs : List Int}
theorem seen_eq {p : List Int} (hp : Pr n p) : m_seen_by (hallObj L n f W kind (.tup (rs.map .int)) G) (tupI p) = .ret (.bl (decide (p1 p ∈ rs) || !decide (p0 p ∈ rs))) := by
  obtain ⟨i, j, rfl, _⟩ := hp
  refine eq_of_wp fun st => ?_
  unfold m_seen_by
  walk_at "v"
  refine if_any (fun h => ?_) fun h => ?_
  · have h' : decide (p1 [i, j] ∈ rs) = true := h
    rw [h']; exact ⟨rfl, rfl⟩
  · have h' : decide (p1 [i, j] ∈ rs) = false := h
    rw [h']
    walk_at "v"
    exact ⟨rfl, rfl⟩
theorem steps_eq (hG : GOk n W G) (hW : WOk n L W) (hl : W.length < 50000) (l0 : 1 ≤ L) (L1 : L ≤ 4) {i : Int} (i0 : 0 ≤ i) (i1 : i < n) : m_steps_from (hallObj L n f W kind B G) (.int i) = .ret (.lst ((stepsL W L i).map tupI)) := by
  have sz : (1000000 : Nat) ≤ sizeLine := by decide
  refine eq_of_wp fun st => ?_
  unfold m_steps_from
  walk_at "v"
  rw [rngI_map]
  have h := comp2_at (c := U.int) (d := U.int) (q := tupI) (wt := fun _ => .ret true) (wl := fun letter_3 => (itW (methM "Hall" "ends" (L3 m_Hall_ends) (.ret (hallObj L n f W kind B G)) (consA (.ret (.int i)) (consA (.ret letter_3) nilA))))) (wt1 := fun _ _ => .ret true) (we := fun letter_3 end_5 => (tupW (consA (.ret letter_3) (consA (.ret end_5) nilA)))) (g := fun l => endsOf W i l) (p := fun _ _ => true) (h := fun l e => [l, e]) (xs := rngI L) fun l ml => ⟨rfl, eq_of_wp fun st => by
      have := ends_i (L := L) (s := f) (kind := kind) (B := B) hG l i0 i1
      walk_at "v"
      refine vs_eq this ?_
      walk_at "v"
      exact ⟨rfl, rfl⟩, fun j mj => ⟨rfl, fun _ => eq_of_wp fun st => by
      walk_at "v"
      exact ⟨rfl, rfl⟩⟩⟩
  have e : ((rngI L).flatMap fun x => ((endsOf W i x).filter fun _ => true).map fun j => [x, j]) = stepsL W L i := by
    unfold stepsL
    congr 1
    funext l
    rw [List.filter_eq_self.mpr (fun _ _ => rfl)]
  rw [e] at h
  refine vs_eq h ⟨?_, rfl, rfl⟩
  rw [List.length_map]
  have : (stepsL W L i).length ≤ (rngI L).length * W.length := by
    unfold stepsL
    have key : ∀ ls : List Int, (ls.flatMap fun l => (endsOf W i l).map fun e => [l, e]).length ≤ ls.length * W.length := by
      intro ls
      induction ls with
      | nil => simp
      | cons l ls ih =>
        have := endsW_len (W := W) (r := i) (l := l)
        rw [List.flatMap_cons, List.length_append, List.length_map, List.length_cons, Nat.succ_mul]
        omega
    exact key _
  rw [rngI_len] at this
  have h2 : L.toNat * W.length ≤ 4 * 50000 := Nat.mul_le_mul (by omega) (by omega)
  omega
theorem answers_eq {S : List (List Int)} {p : List Int} (hG : GOk n W G) (hW : WOk n L W) (hl : W.length < 50000) (l0 : 1 ≤ L) (L1 : L ≤ 4) (hp : Pr n p) : m_answers (hallObj L n f W kind B G) (tupI p) (hdT S) = .ret (.bl (ansB W S p)) := by
  have sz : (1000000 : Nat) ≤ sizeLine := by decide
  obtain ⟨i, j, rfl, i0, i1, j0, j1⟩ := hp
  refine eq_of_wp fun st => ?_
  unfold m_answers
  refine .fn (Wp.bind (vs_ret ?_))
  show Wp (un2 (.tup [.int i, .int j]) _) _ _
  refine vs_un2 ?_
  walk_at "v"
  refine vs_eq (steps_eq hG hW hl l0 L1 i0 i1) ?_
  walk_at "v"
  have hmem : ∀ q ∈ stepsL W L i, ∃ l e, q = [l, e] ∧ [i, l, e] ∈ W := fun q m => (mem_stepsL hW).mp m
  refine vs_for (c := tupI) (e := fun _ : Unit => ()) (fun pre _ s => s = st ∧ ∀ q ∈ pre, ∃ e', [j, p0 q, e'] ∈ W ∧ [p1 q, e'] ∈ S) (t0 := ()) rfl ⟨rfl, fun q m => nomatch m⟩ ?_ ?_
  · rintro pre q post _ st ex ⟨rfl, hpre⟩
    obtain ⟨l, e, rfl, hw⟩ := hmem q (by rw [ex]; simp)
    show Wp (un2 (.tup [.int l, .int e]) _) _ _
    refine vs_un2 ?_
    walk_at "v"
    have he := ends_i (L := L) (s := f) (kind := kind) (B := B) hG l j0 j1
    refine vs_eq he ?_
    walk_at "v"
    have c := comp_eq (c := U.int) (d := U.bl) (p := fun _ : Int => true) (g := fun e' => decide ([e, e'] ∈ S)) (xs := endsOf W j l) (wt := fun its_9 => (.ret true)) (we := fun its_9 => (op2 inU (tupW (consA (.ret (.int e)) (consA (.ret its_9) nilA))) (.ret (hdT S)))) fun e' m => ⟨rfl, fun _ => eq_of_wp fun st => by
        walk_at "v"
        refine wo_hdin (x := [e, e']) ?_
        exact ⟨rfl, rfl⟩⟩
    rw [List.filter_eq_self.mpr (fun _ _ => rfl)] at c
    refine vs_eq c ⟨?_, ?_⟩
    · rw [List.length_map, List.length_map]
      have := endsW_len (W := W) (r := j) (l := l)
      omega
    refine ⟨_, any_at _, ?_⟩
    walk_at "v"
    have hiff : ((endsOf W j l).map fun e' => decide ([e, e'] ∈ S)).any id = true ↔ ∃ e', [j, l, e'] ∈ W ∧ [e, e'] ∈ S := by
      rw [List.any_map, List.any_eq_true]
      exact ⟨fun ⟨e', m, h⟩ => ⟨e', mem_endsD.mp m, of_decide_eq_true h⟩, fun ⟨e', m, h⟩ => ⟨e', mem_endsD.mpr m, decide_eq_true h⟩⟩
    cases hb : ((endsOf W j l).map fun e' => decide ([e, e'] ∈ S)).any id with
    | true =>
      refine if_f ?_
      walk_at "v"
      refine ⟨(), rfl, rfl, fun q m => ?_⟩
      rcases List.mem_append.mp m with m | m
      · exact hpre q m
      · rw [List.mem_singleton.mp m]; exact hiff.mp hb
    | false =>
      refine if_t ?_
      walk_at "v"
      refine ⟨?_, rfl⟩
      have hn : ¬ Ans W S [i, j] := fun h => by
        have := hiff.mpr (h l e hw)
        rw [hb] at this; cases this
      rw [Bool.eq_false_iff.mpr fun z => hn (ansB_iff.mp z)]
  · rintro _ st ⟨rfl, hall⟩
    walk_at "v"
    refine ⟨?_, rfl⟩
    have hy : Ans W S [i, j] := fun l e h => hall [l, e] ((mem_stepsL hW).mpr ⟨l, e, rfl, h⟩)
    rw [ansB_iff.mpr hy]
end

section
variable {L n f : Int} {W : List (List Int)} {kind : Str} {G : List Dc} {rs : List Int}
theorem S0_pr {p : List Int} (h : p ∈ S0 n rs) : Pr n p := mem_apR.mp (List.mem_filter.mp h).1
theorem S0_pw : (S0 n rs).Pairwise lex2 := (apR_pw n).filter _
theorem S0_nd : (S0 n rs).Nodup := (apR_nd n).filter _
theorem S0_len (n0 : 1 ≤ n) (n1 : n ≤ 100) : (S0 n rs).length ≤ 10000 := by
  have h1 : (S0 n rs).length ≤ (apR n).length := List.length_filter_le _ _
  rw [apR_len] at h1
  have : n.toNat * n.toNat ≤ 100 * 100 := Nat.mul_le_mul (by omega) (by omega)
  omega
theorem itS_len {S : List (List Int)} : ∀ k, (itS W S k).length ≤ S.length
  | 0 => Nat.le_refl _
  | k + 1 => Nat.le_trans stpS_len (itS_len k)
end

def wfL (W : List (List Int)) (i : Int) : List (List Int) := (W.filter fun w => decide (w.getD 0 0 = i)).map fun w => [w.getD 1 0, w.getD 2 0]
def weL (W : List (List Int)) (i l : Int) : List Int := (W.filter fun w => decide (w.getD 0 0 = i) && decide (w.getD 1 0 = l)).map fun w => w.getD 2 0
def ptD (L n f : Int) (W : List (List Int)) (kind : Str) (B : U) : U := .tup [.int L, .int n, .int f, .tup (W.map tupI), .str kind, B]
section
variable {L n f : Int} {W : List (List Int)} {kind : Str} {rs : List Int}
theorem mem_wfL (hW : WOk n L W) {i : Int} {q : List Int} : q ∈ wfL W i ↔ ∃ l e, q = [l, e] ∧ [i, l, e] ∈ W := by
  unfold wfL
  rw [List.mem_map]
  constructor
  · rintro ⟨w, m, rfl⟩
    have m := List.mem_filter.mp m
    obtain ⟨a, b, c, rfl, _⟩ := hW.1 w m.1
    have e : a = i := of_decide_eq_true m.2
    exact ⟨b, c, rfl, e ▸ m.1⟩
  · rintro ⟨l, e, rfl, m⟩
    exact ⟨_, List.mem_filter.mpr ⟨m, by simp⟩, rfl⟩
theorem mem_weL (hW : WOk n L W) {i l x : Int} : x ∈ weL W i l ↔ [i, l, x] ∈ W := by
  unfold weL
  rw [List.mem_map]
  constructor
  · rintro ⟨w, m, rfl⟩
    have m := List.mem_filter.mp m
    obtain ⟨a, b, c, rfl, _⟩ := hW.1 w m.1
    have e := m.2
    simp only [List.getD_cons_zero, List.getD_cons_succ, Bool.and_eq_true, decide_eq_true_eq] at e
    rw [← e.1, ← e.2]; exact m.1
  · intro m
    exact ⟨_, List.mem_filter.mpr ⟨m, by simp⟩, rfl⟩
theorem wfL_len {i : Int} : (wfL W i).length ≤ W.length := by
  unfold wfL
  rw [List.length_map]
  exact List.length_filter_le _ _
theorem weL_len {i l : Int} : (weL W i l).length ≤ W.length := by
  unfold weL
  rw [List.length_map]
  exact List.length_filter_le _ _
theorem lwf_eq (hW : WOk n L W) (hl : W.length < 50000) {B : U} (i : Int) : m__law_ways_from (ptD L n f W kind B) (.int i) = .ret (.lst ((wfL W i).map tupI)) := by
  have sz : (1000000 : Nat) ≤ sizeLine := by decide
  refine eq_of_wp fun st => ?_
  unfold m__law_ways_from ptD
  walk_at "v"
  refine vs_eq (comp_eq (c := tupI) (d := tupI) (p := fun w => decide (w.getD 0 0 = i)) (g := fun w => [w.getD 1 0, w.getD 2 0]) (xs := W) fun w m => ?_) ⟨?_, rfl, rfl⟩
  · obtain ⟨a, b, c, rfl, _⟩ := hW.1 w m
    exact ⟨eq_of_wp fun st => by
      walk_at "v"
      exact ⟨rfl, rfl⟩, fun _ => eq_of_wp fun st => by
      walk_at "v"
      exact ⟨rfl, rfl⟩⟩
  · have := wfL_len (W := W) (i := i)
    unfold wfL at this
    rw [List.length_map]; omega
theorem lwe_eq (hW : WOk n L W) (hl : W.length < 50000) {B : U} (i l : Int) : m__law_ends (ptD L n f W kind B) (.int i) (.int l) = .ret (.lst ((weL W i l).map U.int)) := by
  have sz : (1000000 : Nat) ≤ sizeLine := by decide
  refine eq_of_wp fun st => ?_
  unfold m__law_ends ptD
  walk_at "v"
  refine vs_eq (comp_eq (c := tupI) (d := U.int) (p := fun w => decide (w.getD 0 0 = i) && decide (w.getD 1 0 = l)) (g := fun w => w.getD 2 0) (xs := W) fun w m => ?_) ⟨?_, rfl, rfl⟩
  · obtain ⟨a, b, c, rfl, _⟩ := hW.1 w m
    exact ⟨eq_of_wp fun st => by
      walk_at "v"
      refine if_any (fun h => ?_) fun h => ?_
      · walk_at "v"
        have h : decide ([a, b, c].getD 0 0 = i) = true := h
        rw [h]
        exact ⟨rfl, rfl⟩
      · have h : decide ([a, b, c].getD 0 0 = i) = false := h
        rw [h]
        exact ⟨rfl, rfl⟩, fun _ => eq_of_wp fun st => by
      walk_at "v"
      exact ⟨rfl, rfl⟩⟩
  · have := weL_len (W := W) (i := i) (l := l)
    unfold weL at this
    rw [List.length_map]; omega
end

section
variable {P : U → Prop} {x : Int} {s : Str} {us : List U} {r : List Int}
theorem wi_it (h : P (.bl false)) : WpO (isiU (.int x) "tuple") P := ⟨_, rfl, h⟩
theorem wi_ib (h : P (.bl false)) : WpO (isiU (.int x) "bool") P := ⟨_, rfl, h⟩
theorem wi_is (h : P (.bl false)) : WpO (isiU (.int x) "str") P := ⟨_, rfl, h⟩
theorem wi_ii (h : P (.bl true)) : WpO (isiU (.int x) "int") P := ⟨_, rfl, h⟩
theorem wi_tt (h : P (.bl true)) : WpO (isiU (.tup us) "tuple") P := ⟨_, rfl, h⟩
theorem wi_rt (h : P (.bl true)) : WpO (isiU (tupI r) "tuple") P := ⟨_, rfl, h⟩
theorem wi_ss (h : P (.bl true)) : WpO (isiU (.str s) "str") P := ⟨_, rfl, h⟩
theorem wl_r (h : P (.int r.length)) : WpO (lenU (tupI r)) P := by
  refine ⟨_, rfl, ?_⟩
  rw [List.length_map]; exact h
end
local macro_rules | `(tactic| walk_at "w") => `(tactic| repeat (first | walk_at "v1" | walk_at "v2" | (with_reducible first | refine wi_it ?_ | refine wi_ib ?_ | refine wi_is ?_ | refine wi_ii ?_ | refine wi_tt ?_ | refine wi_rt ?_ | refine wi_ss ?_ | refine wl_r ?_ | refine if_p rfl ?_ | refine if_n rfl ?_)))
theorem all_atJ (bs : List Bool) : allU (.lst (bs.map .bl)) = some (.bl (bs.all id)) := by
  have e : ∀ bs : List Bool, boolsU (bs.map U.bl) = some bs := fun bs => by
    induction bs with
    | nil => rfl
    | cons b bs ih => rw [List.map_cons, boolsU, ih]; rfl
  show (boolsU (bs.map .bl)).map _ = _
  rw [e]; rfl
section
variable {L n f : Int} {W : List (List Int)} {kind : Str} {rs : List Int} {G : List Dc}
end

theorem vs_seqC {S S' L : Type} {st : Sto} {Q : Out S' L → Sto → Prop} {w : M (Out S L)} {k : S → M (Out S' L)} (mid : S → Sto → Prop) (h : Wp w st fun o s => ∃ a, o = .nx a ∧ mid a s) (h2 : ∀ a s, mid a s → Wp (k a) s Q) : Wp (seqO w k) st Q := vs_seq (h.mono fun _ s ⟨a, e, m⟩ => e ▸ h2 a s m)
theorem eq_nilI (K : List Int) : eqU (.lst (K.map .int)) (.lst []) = some (.bl (decide (K = []))) := by
  refine eqU_nb (u := .lst (K.map .int)) (v := .lst []) (nb_ints K) rfl (by unfold dpU; rw [dp_ints]; decide) (by decide) ?_
  rw [decide_eq_true_eq]
  constructor
  · rintro rfl; rfl
  · intro e
    exact List.map_eq_nil_iff.mp (U.lst.inj e)
theorem ahd_next {i : Int} {j : Int} {W : List (List Int)} (h : Ahd i j W) : Ahd (i + 1) 0 W := fun w m => by
  obtain ⟨r, l, e, rfl, h⟩ := h w m
  exact ⟨r, l, e, rfl, .inl (by omega)⟩
theorem lagain_ok {ms : Sto} {m : Nat} {L g : Int} {st : Sto} (h : Bx ms m st) (hm : m < 10000) (l0 : 1 ≤ L) (l1 : L ≤ 4) (g0 : 1 ≤ g) (g1 : g ≤ 5) : Wp (m__law_again (.loc ms.length) (.int L) (.int g)) st fun u s => (∃ n : Int, 1 ≤ n ∧ n ≤ g ∧ ∃ (f : Int) (W : List (List Int)) (rs : List Int), u = ptD L n f W "again" (.tup (rs.map .int)) ∧ 0 ≤ f ∧ f < n ∧ WOk n L W ∧ Rs n rs) ∧ Bx ms (m + 1000) s := by
  have sz : (1000000 : Nat) ≤ sizeLine := by decide
  unfold m__law_again
  walk_at "v"
  refine tk h (by omega) (by omega) (by omega) fun a st a0 a1 h => ?_
  walk_at "v"
  generalize en : 1 + a = n
  refine tk h (by omega) (by decide) (by decide) fun ch st c0 c1 h => ?_
  walk_at "v"
  refine tk h (by omega) (by decide) (by decide) fun fu st f0 f1 h => ?_
  walk_at "v"
  refine vs_forN (e := fun W : List (List Int) => U.lst (W.map tupI)) (fun i W st => WOk n L W ∧ Ahd i 0 W ∧ W.length ≤ i * 20 ∧ Bx ms (m + 4 + i * 40) st) (t0 := []) rfl ⟨⟨(fun w m => nomatch m), .nil⟩, (fun w m => nomatch m), Nat.zero_le _, h.up (by omega)⟩ ?_ ?_
  · rintro i W st hi ⟨hW, hA, hl, h⟩
    walk_at "v"
    refine vs_forN (e := fun W : List (List Int) => U.lst (W.map tupI)) (fun j W st => WOk n L W ∧ Ahd i j W ∧ W.length ≤ i * 20 + j * 5 ∧ Bx ms (m + 4 + i * 40 + j * 10) st) (t0 := W) rfl ⟨hW, hA, by omega, h.up (by omega)⟩ ?_ ?_
    · rintro j W st hj ⟨hW, hA, hl, h⟩
      refine .bind (flt_ok (f := U.int) h (by omega) (by omega) (fun _ => rfl) ?_ fun es s hes hel hs => ?_)
      · intro k mm st hk hmm hb
        exact .test (.op2 (.call (.consA (.ret (.consA (.op2 (.ret (.ret ⟨_, rfl, .nilA (tk hb (by omega) (by omega) (by omega) fun v s _ _ hs => .ret ⟨_, eqU_int _ _, _, rfl, hs⟩)⟩))))))))
      refine vs_seqC (fun u s => (∃ es : List Int, u = .lst (es.map .int) ∧ Rs n es ∧ es.length ≤ 5) ∧ Bx ms (m + 4 + i * 40 + j * 10 + 7) s) ?_ ?_
      · walk_at "v"
        refine wo_eq (eq_nilI es) ?_
        walk_at "v"
        refine if_dec (fun he => ?_) fun he => ?_
        · walk_at "v"
          refine if_dec (fun hf => ?_) fun hf => ?_
          · walk_at "v"
            refine tk hs (by omega) (by omega) (by omega) fun x s x0 x1 hs => ?_
            walk_at "v"
            exact ⟨_, rfl, ⟨[x], rfl, ⟨List.pairwise_singleton _ _, fun y my => by rw [List.mem_singleton.mp my]; exact ⟨x0, x1⟩⟩, by simp⟩, hs.up (by omega)⟩
          · walk_at "v"
            exact ⟨_, rfl, ⟨es, rfl, hes, by omega⟩, hs.up (by omega)⟩
        · walk_at "v"
          exact ⟨_, rfl, ⟨es, rfl, hes, by omega⟩, hs.up (by omega)⟩
      rintro _ s ⟨⟨es, rfl, hes, hel⟩, hs⟩
      have hcomp : compM (fun _ => (.ret true)) (fun e => (tupW (consA (.ret (.int (i : Nat))) (consA (.ret (.int (j : Nat))) (consA (.ret e) nilA))))) (es.map U.int) = .ret ((es.map fun e => [(i : Int), (j : Int), e]).map tupI) := by
        refine (comp_eq (c := U.int) (d := tupI) (p := fun _ => true) (g := fun e => [(i : Int), (j : Int), e]) (xs := es) fun x m => ⟨rfl, fun _ => eq_of_wp fun st => ?_⟩).trans ?_
        · walk_at "v"
          exact ⟨rfl, rfl⟩
        · rw [List.filter_eq_self.mpr fun _ _ => rfl]
      walk_at "v"
      refine vs_eq hcomp ⟨by rw [List.length_map, List.length_map]; omega, ?_⟩
      refine wo_add_l (by rw [List.length_map, List.length_map, List.length_map]; omega) ?_
      walk_at "v"
      obtain ⟨h1, h2⟩ := wok_more hW hA ⟨by omega, by omega⟩ ⟨by omega, by omega⟩ hes
      exact ⟨W ++ es.map fun e => [(i : Int), (j : Int), e], by rw [List.map_append], h1, h2, by rw [List.length_append, List.length_map]; omega, hs.up (by omega)⟩
    · rintro W st ⟨hW, hA, hl, h⟩
      walk_at "v"
      exact ⟨W, rfl, hW, ahd_next hA, by omega, h.up (by omega)⟩
  · rintro W st ⟨hW, hA, hl, h⟩
    walk_at "v"
    refine tk h (by omega) (by omega) (by omega) fun f st f0 f1 h => ?_
    walk_at "v"
    refine rooms_ok h (by omega) (by omega) (by omega) fun rs s hr hb => ?_
    walk_at "v"
    exact ⟨⟨n, by omega, by omega, f, W, rs, rfl, f0, f1, hW, hr⟩, hb.up (by omega)⟩

theorem again_self {L n f : Int} {W : List (List Int)} {B : U} {G : List Dc} : m_as_again (hallObj L n f W "again" B G) = .ret (hallObj L n f W "again" B G) := by
  refine eq_of_wp fun st => ?_
  unfold m_as_again
  walk_at "v"
  refine if_p rfl ?_
  walk_at "v"
  exact ⟨rfl, rfl⟩
theorem bx_cell {ms st : Sto} {n : Nat} (h : Bx ms n st) (hm : ms.all cellN = true) : st.all cellN = true := by
  obtain ⟨a, b, c, rfl, _⟩ := h
  rw [List.all_append, hm]; rfl
theorem of_ok {L n f : Int} {W : List (List Int)} {kind : Str} {B : U} {st : Sto} (l0 : 1 ≤ L) (l1 : L ≤ 4) (n0 : 1 ≤ n) (n1 : n ≤ 1000) (f0 : 0 ≤ f) (f1 : f < n) (hW : WOk n L W) (hl : W.length < 50000) (hB : ByOk n kind B) {Q : U → Sto → Prop} (k : ∀ G : List Dc, GOk n W G → Q (hallObj L n f W kind B G) st) :
    Wp (m__law_hall_of (ptD L n f W kind B)) st Q := by
  unfold m__law_hall_of ptD
  walk_at "v"
  refine mk_at l0 l1 n0 n1 f0 f1 hW hl hB ?_
  walk_at "v"
  exact ⟨rfl, k⟩
theorem wok_len_s {n L : Int} {W : List (List Int)} (h : WOk n L W) (n1 : n ≤ 5) (l1 : L ≤ 4) : W.length ≤ 100 := by
  let c5 : List Int → Int := fun w => match w with
    | [r, l, e] => r * 20 + l * 5 + e
    | _ => 0
  have hb : ∀ r ∈ W.map c5, 0 ≤ r ∧ r < ((100 : Nat) : Int) := fun r m => by
    obtain ⟨w, mw, rfl⟩ := List.mem_map.mp m
    obtain ⟨a, b, c, rfl, _⟩ := h.1 w mw
    show 0 ≤ a * 20 + b * 5 + c ∧ a * 20 + b * 5 + c < _
    omega
  have nd : (W.map c5).Nodup := List.pairwise_map.mpr (h.2.imp_of_mem fun {x y} mx my q e => by
    obtain ⟨a, b, c, rfl, _⟩ := h.1 x mx
    obtain ⟨a', b', c', rfl, _⟩ := h.1 y my
    have e : a * 20 + b * 5 + c = a' * 20 + b' * 5 + c' := e
    simp only [lexLt] at q
    omega)
  have := nodup_len 100 (W.map c5) nd hb
  rw [List.length_map] at this
  omega
theorem dpL_le {k : Nat} {τ : Type} {c : τ → U} : ∀ {xs : List τ}, (∀ x ∈ xs, dpU (c x) ≤ k) → dpA (xs.map c) ≤ k
  | [], _ => Nat.zero_le _
  | x :: xs, h => by
    have h1 := h x List.mem_cons_self
    have h2 := dpL_le (xs := xs) fun y m => h y (List.mem_cons_of_mem _ m)
    simp only [List.map_cons, dpA]
    omega
theorem rows_nb (W : List (List Int)) : nbU (.tup (W.map tupI)) = true ∧ dpU (.tup (W.map tupI)) ≤ 64 := ⟨nbA_map fun x _ => nb_ints x, by
  have := dpL_le (k := 3) (c := tupI) (xs := W) fun x _ => by simp only [tupI, dpU, dp_ints]; omega
  simp only [dpU]; omega⟩
theorem nb_rows (W : List (List Int)) : nbA (W.map tupI) = true := nbA_map fun x _ => nb_ints x
theorem dp_rows (W : List (List Int)) : dpU (.lst (W.map tupI)) ≤ 64 := (rows_nb W).2
theorem pd_rows : ∀ M : List (List Int), pdAll (M.map tupI) = some (M.map fun y => .tuple (y.map .int))
  | [] => rfl
  | y :: M => by
    rw [List.map_cons, pdAll, pd_rows M]
    simp only [tupI, pd, pdAll_ints]
    rfl
theorem tupI_inj1 {x y : List Int} (h : tupI x = tupI y) : x = y := map_int_inj.mp (U.tup.inj h)
theorem shp_rows (M : List (List Int)) : SeqAt.shaped (.list (M.map fun y => .tuple (y.map .int))) = true ∧ SeqAt.shaped (.tuple (M.map fun y => .tuple (y.map .int))) = true := by
  obtain ⟨d', ed'⟩ := nb_pd (.lst (M.map tupI)) (nb_rows M)
  obtain ⟨d2, ed2⟩ := nb_pd (.tup (M.map tupI)) (nb_rows M)
  have e2 : d' = .list (M.map fun y => .tuple (y.map .int)) := by
    have h2 : pd (.lst (M.map tupI)) = some (.list (M.map fun y => .tuple (y.map .int))) := by simp only [pd, pd_rows]; rfl
    exact Option.some.inj (ed'.pd.symm.trans h2)
  have e3 : d2 = .tuple (M.map fun y => .tuple (y.map .int)) := by
    have h2 : pd (.tup (M.map tupI)) = some (.tuple (M.map fun y => .tuple (y.map .int))) := by simp only [pd, pd_rows]; rfl
    exact Option.some.inj (ed2.pd.symm.trans h2)
  have s2 : SeqAt.shaped d' = true := by
    simp only [SeqAt.shaped, ed'.cl, ed'.dp, Bool.true_and]; exact decide_eq_true (dp_rows M)
  have s3 : SeqAt.shaped d2 = true := by
    simp only [SeqAt.shaped, ed2.cl, ed2.dp, Bool.true_and]; exact decide_eq_true (dp_rows M)
  exact ⟨e2 ▸ s2, e3 ▸ s3⟩
theorem shp_row (x : List Int) : SeqAt.shaped (.tuple (x.map .int)) = true := by
  obtain ⟨d, ed⟩ := nb_pd (.tup (x.map .int)) (nb_ints x)
  have e1 : d = .tuple (x.map .int) := by
    have h2 : pd (.tup (x.map U.int)) = some (.tuple (x.map .int)) := by simp only [pd, pdAll_ints]; rfl
    exact Option.some.inj (ed.pd.symm.trans h2)
  rw [← e1]
  simp only [SeqAt.shaped, ed.cl, ed.dp, Bool.true_and]; exact decide_eq_true (by unfold dpU; rw [dp_ints]; decide)
theorem any_rows (x : List Int) (M : List (List Int)) : ((M.map fun y => PyData.tuple (y.map .int)).any fun z => PyData.eqv z (.tuple (x.map .int))) = decide (x ∈ M) := by
  have p1 : ∀ y : List Int, pd (tupI y) = some (.tuple (y.map .int)) := fun y => by simp only [tupI, pd, pdAll_ints]; rfl
  rw [Bool.eq_iff_iff, List.any_map, List.any_eq_true, decide_eq_true_eq]
  constructor
  · rintro ⟨y, my, h⟩
    have := (eqv_iff (tupI y) (tupI x) (.tuple (y.map .int)) (.tuple (x.map .int)) (nb_ints y) (nb_ints x) (p1 y) (p1 x)).mp h
    rw [tupI_inj1 this] at my
    exact my
  · intro m
    exact ⟨x, m, (eqv_iff (tupI x) (tupI x) (.tuple (x.map .int)) (.tuple (x.map .int)) (nb_ints x) (nb_ints x) (p1 x) (p1 x)).mpr rfl⟩
theorem in_rows (x : List Int) (M : List (List Int)) : inB (tupI x) (.lst (M.map tupI)) = some (decide (x ∈ M)) := by
  have p1 : pd (tupI x) = some (.tuple (x.map .int)) := by simp only [tupI, pd, pdAll_ints]; rfl
  have p2 : pd (.lst (M.map tupI)) = some (.list (M.map fun y => .tuple (y.map .int))) := by simp only [pd, pd_rows]; rfl
  have e : inB (tupI x) (.lst (M.map tupI)) = match pd (tupI x), pd (.lst (M.map tupI)) with
    | some d, some (.list ds) => if SeqAt.shaped d = true ∧ SeqAt.shaped (.list ds) = true then some (ds.any fun z => PyData.eqv z d) else none
    | some d, some (.tuple ds) => if SeqAt.shaped d = true ∧ SeqAt.shaped (.tuple ds) = true then some (ds.any fun z => PyData.eqv z d) else none
    | _, _ => none := rfl
  rw [e, p1, p2]
  simp only
  rw [if_pos ⟨shp_row x, (shp_rows M).1⟩, any_rows]
theorem in_rowsT (x : List Int) (M : List (List Int)) : inB (tupI x) (.tup (M.map tupI)) = some (decide (x ∈ M)) := by
  have p1 : pd (tupI x) = some (.tuple (x.map .int)) := by simp only [tupI, pd, pdAll_ints]; rfl
  have p2 : pd (.tup (M.map tupI)) = some (.tuple (M.map fun y => .tuple (y.map .int))) := by simp only [pd, pd_rows]; rfl
  have e : inB (tupI x) (.tup (M.map tupI)) = match pd (tupI x), pd (.tup (M.map tupI)) with
    | some d, some (.list ds) => if SeqAt.shaped d = true ∧ SeqAt.shaped (.list ds) = true then some (ds.any fun z => PyData.eqv z d) else none
    | some d, some (.tuple ds) => if SeqAt.shaped d = true ∧ SeqAt.shaped (.tuple ds) = true then some (ds.any fun z => PyData.eqv z d) else none
    | _, _ => none := rfl
  rw [e, p1, p2]
  simp only
  rw [if_pos ⟨shp_row x, (shp_rows M).2⟩, any_rows]
theorem wo_in_r {x : List Int} {M : List (List Int)} {P : U → Prop} (h : P (.bl (decide (x ∈ M)))) : WpO (inSU (tupI x) (.lst (M.map tupI))) P := ⟨_, by unfold inSU; rw [in_rows]; rfl, h⟩
theorem wo_in_rt {x : List Int} {M : List (List Int)} {P : U → Prop} (h : P (.bl (decide (x ∈ M)))) : WpO (inSU (tupI x) (.tup (M.map tupI))) P := ⟨_, by unfold inSU; rw [in_rowsT]; rfl, h⟩
theorem comp_id {wt : U → M Bool} {we : U → M U} {g : U → U} {us : List U} (h : ∀ x ∈ us, wt x = .ret true ∧ we x = .ret (g x)) : compM wt we us = .ret (us.map g) := by
  have := comp_eq (c := fun x : U => x) (d := fun x : U => x) (wt := wt) (we := we) (p := fun _ => true) (g := g) (xs := us) fun x m => ⟨(h x m).1, fun _ => (h x m).2⟩
  rw [List.filter_eq_self.mpr (fun _ _ => rfl), List.map_id', List.map_id'] at this
  exact this
def isTB : U → Bool
  | .tup _ => true
  | _ => false
def isIB : U → Bool
  | .int _ => true
  | .bl _ => true
  | _ => false
def isBB : U → Bool
  | .bl _ => true
  | _ => false
def Dt (u : U) : Prop := smU u = true ∨ u = .dct [] []
theorem isi_t {u : U} (h : Dt u) : isiU u "tuple" = some (.bl (isTB u)) := by
  rcases h with h | rfl
  · cases u <;> first | rfl | simp [smU] at h
  · rfl
theorem isi_i {u : U} (h : smU u = true) : isiU u "int" = some (.bl (isIB u)) := by cases u <;> first | rfl | simp [smU] at h
theorem isi_b {u : U} (h : smU u = true) : isiU u "bool" = some (.bl (isBB u)) := by cases u <;> first | rfl | simp [smU] at h
theorem sm_mem : ∀ {us : List U}, smA us = true → ∀ u ∈ us, smU u = true
  | [], _, u, m => nomatch m
  | v :: us, h, u, m => by
    have h : smU v = true ∧ smA us = true := by simpa [smA] using h
    rcases List.mem_cons.mp m with rfl | m
    · exact h.1
    · exact sm_mem h.2 u m
theorem sm_all : ∀ {us : List U}, (∀ u ∈ us, smU u = true) → smA us = true
  | [], _ => rfl
  | v :: us, h => by
    have h1 := h v List.mem_cons_self
    have h2 := sm_all (us := us) fun u m => h u (List.mem_cons_of_mem _ m)
    simp [smA, h1, h2]
def numB (n : Int) : U → Bool
  | .int a => decide (0 ≤ a) && decide (a < n)
  | _ => false
def gpB (n : Int) : U → Bool
  | .tup [x, y] => numB n x && numB n y
  | _ => false
theorem num_any {u : U} {n : Int} {wr : M U} (hr : wr = .ret (.int n)) (h : smU u = true) : andW (op1 (isiU · "int") (.ret u)) (andW (op1 notU (op1 (isiU · "bool") (.ret u))) (chainW leU ltU (.ret (.int 0)) (.ret u) wr)) = .ret (.bl (numB n u)) := by
  subst hr
  refine eq_of_wp fun st => ?_
  walk_at "v"
  refine wo_eq (isi_i h) ?_
  walk_at "v"
  cases u with
  | int a =>
    refine if_t ?_
    walk_at "v"
    refine wo_eq (isi_b h) ?_
    walk_at "v"
    refine if_t ?_
    walk_at "v"
    refine if_any (fun q => ?_) fun q => ?_
    · walk_at "v"
      exact ⟨by show _ = U.bl (decide (0 ≤ a) && decide (a < n)); rw [q]; rfl, rfl⟩
    · walk_at "v"
      exact ⟨by show _ = U.bl (decide (0 ≤ a) && decide (a < n)); rw [q]; rfl, rfl⟩
  | bl b =>
    refine if_t ?_
    walk_at "v"
    refine wo_eq (isi_b h) ?_
    walk_at "v"
    refine if_f ?_
    exact ⟨rfl, rfl⟩
  | non => refine if_f ?_; exact ⟨rfl, rfl⟩
  | str _ => refine if_f ?_; exact ⟨rfl, rfl⟩
  | tup _ => refine if_f ?_; exact ⟨rfl, rfl⟩
  | lst _ => refine if_f ?_; exact ⟨rfl, rfl⟩
  | _ => simp [smU] at h
theorem pair_any {u : U} {n L f : Int} {W : List (List Int)} {kind : Str} {B : U} {G : List Dc} (h : smU u = true) : m_is_pair (hallObj L n f W kind B G) u = .ret (.bl (gpB n u)) := by
  refine eq_of_wp fun st => ?_
  unfold m_is_pair
  walk_at "v"
  refine wo_eq (isi_t (.inl h)) ?_
  walk_at "v"
  cases u with
  | tup us =>
    refine if_f ?_
    walk_at "v"
    refine if_ndec (fun hne => ?_) fun heq => ?_
    · walk_at "v"
      refine ⟨?_, rfl⟩
      match us, hne with
      | [], _ => rfl
      | [_], _ => rfl
      | [_, _], hne => exact absurd rfl hne
      | _ :: _ :: _ :: _, _ => rfl
    · match us, heq with
      | [x, y], _ =>
        have hm := sm_mem (us := [x, y]) h
        walk_at "v"
        refine vs_eq (comp_id (g := fun u => .bl (numB n u)) fun u m => ⟨rfl, num_any rfl (hm u m)⟩) ⟨by show 2 ≤ sizeLine; decide, ?_⟩
        refine ⟨_, all_atJ [numB n x, numB n y], ?_⟩
        walk_at "v"
        exact ⟨by simp [gpB], rfl⟩
      | [], heq => exact absurd heq (by decide)
      | [_], heq => exact absurd heq (by simp)
      | _ :: _ :: _ :: us, heq => exact absurd heq (by simp only [List.length_cons]; omega)
  | non => refine if_t ?_; walk_at "v"; exact ⟨rfl, rfl⟩
  | bl _ => refine if_t ?_; walk_at "v"; exact ⟨rfl, rfl⟩
  | int _ => refine if_t ?_; walk_at "v"; exact ⟨rfl, rfl⟩
  | str _ => refine if_t ?_; walk_at "v"; exact ⟨rfl, rfl⟩
  | lst _ => refine if_t ?_; walk_at "v"; exact ⟨rfl, rfl⟩
  | _ => simp [smU] at h
theorem lpair_any {u : U} {n : Int} (h : smU u = true) : m__law_is_pair u (.int n) = .ret (.bl (gpB n u)) := by
  refine eq_of_wp fun st => ?_
  unfold m__law_is_pair
  walk_at "v"
  refine wo_eq (isi_t (.inl h)) ?_
  walk_at "v"
  cases u with
  | tup us =>
    refine if_f ?_
    walk_at "v"
    refine if_ndec (fun hne => ?_) fun heq => ?_
    · walk_at "v"
      refine ⟨?_, rfl⟩
      match us, hne with
      | [], _ => rfl
      | [_], _ => rfl
      | [_, _], hne => exact absurd rfl hne
      | _ :: _ :: _ :: _, _ => rfl
    · match us, heq with
      | [x, y], _ =>
        have hm := sm_mem (us := [x, y]) h
        walk_at "v"
        refine vs_eq (comp_id (g := fun u => .bl (numB n u)) fun u m => ⟨rfl, num_any rfl (hm u m)⟩) ⟨by show 2 ≤ sizeLine; decide, ?_⟩
        refine ⟨_, all_atJ [numB n x, numB n y], ?_⟩
        walk_at "v"
        exact ⟨by simp [gpB], rfl⟩
      | [], heq => exact absurd heq (by decide)
      | [_], heq => exact absurd heq (by simp)
      | _ :: _ :: _ :: us, heq => exact absurd heq (by simp only [List.length_cons]; omega)
  | non => refine if_t ?_; walk_at "v"; exact ⟨rfl, rfl⟩
  | bl _ => refine if_t ?_; walk_at "v"; exact ⟨rfl, rfl⟩
  | int _ => refine if_t ?_; walk_at "v"; exact ⟨rfl, rfl⟩
  | str _ => refine if_t ?_; walk_at "v"; exact ⟨rfl, rfl⟩
  | lst _ => refine if_t ?_; walk_at "v"; exact ⟨rfl, rfl⟩
  | _ => simp [smU] at h
theorem gp_rows {n : Int} : ∀ {us : List U}, (us.all (gpB n)) = true → ∃ K : List (List Int), us = K.map tupI ∧ ∀ p ∈ K, Pr n p
  | [], _ => ⟨[], rfl, fun p m => nomatch m⟩
  | u :: us, h => by
    rw [List.all_cons, Bool.and_eq_true] at h
    obtain ⟨K, rfl, hK⟩ := gp_rows h.2
    have h1 := h.1
    unfold gpB at h1
    split at h1
    · rename_i x y
      rw [Bool.and_eq_true] at h1
      obtain ⟨hx, hy⟩ := h1
      unfold numB at hx hy
      split at hx
      · split at hy
        · rename_i a _ b
          simp only [Bool.and_eq_true, decide_eq_true_eq] at hx hy
          refine ⟨[a, b] :: K, rfl, fun p m => ?_⟩
          rcases List.mem_cons.mp m with rfl | m
          · exact ⟨a, b, rfl, hx.1, hx.2, hy.1, hy.2⟩
          · exact hK p m
        · cases hy
      · cases hx
    · cases h1
theorem rows_gp {n : Int} {K : List (List Int)} (h : ∀ p ∈ K, Pr n p) : ((K.map tupI).all (gpB n)) = true := by
  rw [List.all_map, List.all_eq_true]
  intro p m
  obtain ⟨i, j, rfl, i0, i1, j0, j1⟩ := h p m
  show (numB n (.int i) && numB n (.int j)) = true
  simp [numB, i0, i1, j0, j1]

open Classical in
noncomputable def lexB (a b : List Int) : Bool := decide (lex2 a b)
open Classical in
theorem lexB_iff {a b : List Int} : lexB a b = true ↔ lex2 a b := by
  unfold lexB
  exact decide_eq_true_iff
theorem lexB_no {a b : List Int} (h : ¬ lex2 a b) : lexB a b = false := by
  cases e : lexB a b with
  | false => rfl
  | true => exact absurd (lexB_iff.mp e) h
theorem lex2_trans {n : Int} {a b c : List Int} (ha : Pr n a) (hb : Pr n b) (hc : Pr n c) (h1 : lex2 a b) (h2 : lex2 b c) : lex2 a c := by
  obtain ⟨i, j, rfl, _⟩ := ha
  obtain ⟨k, l, rfl, _⟩ := hb
  obtain ⟨p, q, rfl, _⟩ := hc
  simp only [lex2] at *
  omega
theorem ltU_any {n : Int} {a b : List Int} (ha : Pr n a) (hb : Pr n b) : ltU (tupI a) (tupI b) = some (.bl (lexB a b)) := by
  by_cases h : lex2 a b
  · rw [ltU_row2 h, lexB_iff.mpr h]
  · rw [lexB_no h]
    obtain ⟨r, l, rfl, _⟩ := ha
    obtain ⟨r', l', rfl, _⟩ := hb
    have e0 : ltU (tupI [r, l]) (tupI [r', l']) = (match pd (tupI [r, l]), pd (tupI [r', l']) with
      | some d, some e => if PySem.W.alike d e = true ∧ notNone d = true ∧ d.depth ≤ 64 then some (U.bl (PySem.W.dataLt d e)) else none
      | _, _ => none) := rfl
    rw [e0, pd_row, pd_row]
    simp only
    rw [if_pos ⟨by simp [PySem.W.alike, PySem.W.alikeAll], rfl, by simp [PyData.depth, PyData.depthAll]⟩]
    congr 2
    simp only [List.map_cons, List.map_nil]
    rw [PySem.W.dataLt_tuple]
    by_cases z : r = r'
    · rw [PySem.W.dataLt_all_yes (by simp [PySem.W.alike]) (by simp [PyData.eqv, z])]
      by_cases y : l = l'
      · rw [PySem.W.dataLt_all_yes (by simp [PySem.W.alike]) (by simp [PyData.eqv, y])]
        rfl
      · rw [PySem.W.dataLt_all_no (by simp [PySem.W.alike]) (by simp [PyData.eqv, y]), PySem.W.dataLt_int]
        exact decide_eq_false fun q => h (by simp only [lex2]; omega)
    · rw [PySem.W.dataLt_all_no (by simp [PySem.W.alike]) (by simp [PyData.eqv, z]), PySem.W.dataLt_int]
      exact decide_eq_false fun q => h (by simp only [lex2]; omega)
theorem rise_any {n : Int} {S : List (List Int)} (hp : ∀ p ∈ S, Pr n p) : compM (fun e_9 => un2 e_9 fun one_7 other_8 => M.ret true)
      (fun e_9 => un2 e_9 fun one_7 other_8 => op2 ltU (M.ret one_7) (M.ret other_8))
      (zipL (List.map tupI S) (EL.cut (List.map tupI S) (some ((1 : Nat) : Int)) none)) = .ret (((S.zip (S.drop 1)).map fun p => lexB p.1 p.2).map U.bl) := by
  have e : zipL (List.map tupI S) (EL.cut (List.map tupI S) (some ((1 : Nat) : Int)) none) = (S.zip (S.drop 1)).map fun p => U.tup [tupI p.1, tupI p.2] := by
    rw [EL.cut_from, ← List.map_drop]
    unfold zipL
    rw [List.zipWith_map]
    rw [List.zip_eq_zipWith, List.map_zipWith]
  rw [e]
  have c := comp_eq (c := fun p : List Int × List Int => U.tup [tupI p.1, tupI p.2]) (d := U.bl) (p := fun _ => true) (g := fun p => lexB p.1 p.2) (xs := S.zip (S.drop 1)) (wt := fun e_9 => un2 e_9 fun one_7 other_8 => M.ret true)
      (we := fun e_9 => un2 e_9 fun one_7 other_8 => op2 ltU (M.ret one_7) (M.ret other_8)) fun p m => ⟨rfl, fun _ => by
      show M.o (ltU (tupI p.1) (tupI p.2)) = _
      have m' : (p.1, p.2) ∈ S.zip (S.drop 1) := m
      rw [ltU_any (hp p.1 (List.of_mem_zip m').1) (hp p.2 (List.mem_of_mem_drop (List.of_mem_zip m').2))]; rfl⟩
  rw [List.filter_eq_self.mpr (fun _ _ => rfl)] at c
  exact c
theorem adj_pw {n : Int} : ∀ {S : List (List Int)}, (∀ p ∈ S, Pr n p) → ((((S.zip (S.drop 1)).map fun p => lexB p.1 p.2).all id) = true ↔ S.Pairwise lex2)
  | [], _ => by simp
  | [a], _ => by simp
  | a :: b :: S, h => by
    have ih := adj_pw (S := b :: S) fun p m => h p (List.mem_cons_of_mem _ m)
    have e : ((a :: b :: S).zip ((a :: b :: S).drop 1)) = (a, b) :: (b :: S).zip ((b :: S).drop 1) := rfl
    rw [e, List.map_cons, List.all_cons, Bool.and_eq_true, ih]
    constructor
    · rintro ⟨h1, h2⟩
      have h1 : lex2 a b := lexB_iff.mp h1
      refine List.pairwise_cons.mpr ⟨fun c m => ?_, h2⟩
      rcases List.mem_cons.mp m with rfl | m
      · exact h1
      · exact lex2_trans (h a (by simp)) (h b (by simp)) (h c (by simp [m])) h1 ((List.pairwise_cons.mp h2).1 c m)
    · intro h2
      exact ⟨lexB_iff.mpr ((List.pairwise_cons.mp h2).1 b List.mem_cons_self), (List.pairwise_cons.mp h2).2⟩
theorem lex2_nd {n : Int} {S : List (List Int)} (hp : ∀ p ∈ S, Pr n p) (h : S.Pairwise lex2) : S.Nodup := h.imp_of_mem fun {a b} ma mb q e => by
  obtain ⟨i, j, rfl, _⟩ := hp a ma
  subst e
  simp only [lex2] at q
  omega
def ShP (n : Int) (W : List (List Int)) (rs : List Int) (K : List (List Int)) : Prop := (∀ p ∈ K, Pr n p) ∧ K.Pairwise lex2 ∧ ∀ p ∈ K, (decide (p1 p ∈ rs) || !decide (p0 p ∈ rs)) = true ∧ Ans W K p
def ShT (n : Int) (W : List (List Int)) (rs : List Int) (u : U) : Prop := ∃ K, u = .tup (K.map tupI) ∧ ShP n W rs K
theorem tup_rows {K K' : List (List Int)} (h : U.tup (K.map tupI) = .tup (K'.map tupI)) : K = K' := (List.map_inj_right (f := tupI) fun x y e => map_int_inj.mp (U.tup.inj e)).mp (U.tup.inj h)
section
variable {L n f : Int} {W : List (List Int)} {kind : Str} {rs : List Int} {G : List Dc}
theorem shows_any {u h : U} {st : Sto} (hu : Dt u) (hul : ∀ us, u = .tup us → us.length ≤ 10000) (hs : m_as_again h st = some (.ok (hallObj L n f W kind (.tup (rs.map .int)) G), st)) (hG : GOk n W G) (hW : WOk n L W) (hl : W.length < 50000) (l0 : 1 ≤ L) (l1 : L ≤ 4) (n0 : 1 ≤ n) (n1 : n ≤ 100) :
    Wp (m_shows_direct h u) st fun r s => s = st ∧ ∃ b, r = .bl b ∧ (b = true ↔ ShT n W rs u) := by
  have sz : (1000000 : Nat) ≤ sizeLine := by decide
  unfold m_shows_direct
  walk_at "v"
  refine Wp.mono (Q := fun u s => u = (hallObj L n f W kind (.tup (rs.map .int)) G) ∧ s = st) ⟨_, _, hs, rfl, rfl⟩ ?_
  rintro _ _ ⟨rfl, rfl⟩
  walk_at "v"
  refine wo_eq (isi_t hu) ?_
  walk_at "v"
  by_cases ht : ∃ us, u = .tup us
  · obtain ⟨us, rfl⟩ := ht
    have hl2 := hul us rfl
    have hsm : smA us = true := by
      rcases hu with h | h
      · exact h
      · cases h
    refine if_f ?_
    walk_at "v"
    refine vs_eq (comp_id (g := fun u => .bl (gpB n u)) fun x m => ⟨rfl, eq_of_wp fun st => by
      walk_at "v"
      refine vs_eq (pair_any (sm_mem hsm x m)) ?_
      exact ⟨rfl, rfl⟩⟩) ⟨by rw [List.length_map]; omega, ?_⟩
    refine ⟨_, by rw [show (us.map fun u => U.bl (gpB n u)) = (us.map (gpB n)).map U.bl from (List.map_map ..).symm]; exact all_atJ _, ?_⟩
    walk_at "v"
    rw [List.all_map]
    refine if_any (fun hg => ?_) fun hg => ?_
    · have hg : us.all (gpB n) = false := by
        have : (!us.all (gpB n)) = true := hg
        simpa using this
      walk_at "v"
      refine ⟨rfl, false, rfl, ?_⟩
      constructor
      · intro z; cases z
      · rintro ⟨K, e, hK, _⟩
        cases e
        rw [rows_gp hK] at hg
        cases hg
    · have hg : us.all (gpB n) = true := by
        have : (!us.all (gpB n)) = false := hg
        simpa using this
      obtain ⟨K, rfl, hK⟩ := gp_rows hg
      rw [List.length_map] at hl2
      walk_at "v"
      refine vs_eq (rise_any hK) ⟨by rw [List.length_map, List.length_map, List.length_zip]; omega, ?_⟩
      refine ⟨_, all_atJ _, ?_⟩
      walk_at "v"
      refine if_any (fun ha => ?_) fun ha => ?_
      · have ha : ¬ K.Pairwise lex2 := fun pw => by
          rw [(adj_pw hK).mpr pw] at ha
          cases ha
        walk_at "v"
        refine ⟨rfl, false, rfl, ?_⟩
        constructor
        · intro z; cases z
        · rintro ⟨K', e, _, pw, _⟩
          rw [tup_rows e] at ha
          exact absurd pw ha
      · have pw : K.Pairwise lex2 := (adj_pw hK).mp (by simpa using ha)
        have nd := lex2_nd hK pw
        walk_at "v"
        have hd := dcW_setT (xs := K) (wl := itW (M.ret (U.tup (List.map tupI K)))) (wt := fun pair_13 => M.ret true) (c := fun _ => true) rfl (fun _ _ => rfl) nd (by omega)
        rw [List.filter_eq_self.mpr (fun _ _ => rfl)] at hd
        refine vs_eq hd ?_
        walk_at "v"
        have c2 := comp_eq (c := tupI) (d := U.bl) (p := fun _ => true) (g := fun x => (decide (p1 x ∈ rs) || !decide (p0 x ∈ rs)) && ansB W K x) (xs := K) (wt := fun pair_14 => (.ret true)) (we := fun pair_14 =>
                          andW
                            (callM (L2' m_seen_by)
                              (consA (M.ret (hallObj L n f W kind (U.tup (List.map U.int rs)) G))
                                (consA (M.ret pair_14) nilA)))
                            (callM (L3 m_answers)
                              (consA (M.ret (hallObj L n f W kind (U.tup (List.map U.int rs)) G))
                                (consA (M.ret pair_14) (consA (M.ret (hdT K)) nilA))))) fun x m => ⟨rfl, fun _ => eq_of_wp fun st => by
            walk_at "v"
            refine vs_eq (seen_eq (hK x m)) ?_
            walk_at "v"
            refine if_any (fun q => ?_) fun q => ?_
            · rw [q]
              walk_at "v"
              refine vs_eq (answers_eq hG hW hl l0 l1 (hK x m)) ?_
              exact ⟨rfl, rfl⟩
            · rw [q]
              exact ⟨rfl, rfl⟩⟩
        rw [List.filter_eq_self.mpr (fun _ _ => rfl)] at c2
        refine vs_eq c2 ⟨by rw [List.length_map, List.length_map]; omega, ?_⟩
        refine ⟨_, all_atJ _, ?_⟩
        refine ⟨rfl, _, rfl, ?_⟩
        rw [List.all_map, List.all_eq_true]
        constructor
        · intro q
          refine ⟨K, rfl, hK, pw, fun p m => ?_⟩
          have := q p m
          have this : ((decide (p1 p ∈ rs) || !decide (p0 p ∈ rs)) && ansB W K p) = true := this
          rw [Bool.and_eq_true] at this
          exact ⟨this.1, ansB_iff.mp this.2⟩
        · rintro ⟨K', e, _, _, q⟩ p m
          have e := tup_rows e
          subst e
          show ((decide (p1 p ∈ rs) || !decide (p0 p ∈ rs)) && ansB W K p) = true
          rw [Bool.and_eq_true]
          exact ⟨(q p m).1, ansB_iff.mpr (q p m).2⟩
  · have e : isTB u = false := by
      cases u <;> first | rfl | exact absurd ⟨_, rfl⟩ ht
    rw [e]
    walk_at "v"
    refine ⟨rfl, false, rfl, ?_⟩
    constructor
    · intro z; cases z
    · rintro ⟨K, e, _⟩
      exact absurd ⟨_, e⟩ ht
end

section
variable {L n f : Int} {W : List (List Int)} {kind : Str} {rs : List Int}
theorem lshows_any {u : U} {st : Sto} (hu : Dt u) (hul : ∀ us, u = .tup us → us.length ≤ 10000) (hW : WOk n L W) (hl : W.length < 50000) :
    Wp (m__law_shows (ptD L n f W kind (.tup (rs.map .int))) u) st fun r s => s = st ∧ ∃ b, r = .bl b ∧ (b = true ↔ ShT n W rs u) := by
  have sz : (1000000 : Nat) ≤ sizeLine := by decide
  have no : ∀ {st : Sto}, ¬ ShT n W rs u → (fun (r : U) s => s = st ∧ ∃ b, r = U.bl b ∧ (b = true ↔ ShT n W rs u)) (.bl false) st := fun h => ⟨rfl, false, rfl, ⟨fun z => (nomatch z), fun z => absurd z h⟩⟩
  unfold m__law_shows ptD
  walk_at "v"
  refine wo_eq (isi_t hu) ?_
  walk_at "v"
  by_cases ht : ∃ us, u = .tup us
  · obtain ⟨us, rfl⟩ := ht
    have hl2 := hul us rfl
    have hsm : smA us = true := by
      rcases hu with h | h
      · exact h
      · cases h
    refine if_f ?_
    walk_at "v"
    refine vs_eq (comp_id (g := fun u => .bl (gpB n u)) fun x m => ⟨rfl, eq_of_wp fun st => by
      walk_at "v"
      refine vs_eq (lpair_any (sm_mem hsm x m)) ?_
      exact ⟨rfl, rfl⟩⟩) ⟨by rw [List.length_map]; omega, ?_⟩
    refine ⟨_, by rw [show (us.map fun u => U.bl (gpB n u)) = (us.map (gpB n)).map U.bl from (List.map_map ..).symm]; exact all_atJ _, ?_⟩
    walk_at "v"
    rw [List.all_map]
    refine if_any (fun hg => ?_) fun hg => ?_
    · have hg : us.all (gpB n) = false := by
        have : (!us.all (gpB n)) = true := hg
        simpa using this
      walk_at "v"
      refine no ?_
      rintro ⟨K, e, hK, _⟩
      cases e
      rw [rows_gp hK] at hg
      cases hg
    · have hg : us.all (gpB n) = true := by
        have : (!us.all (gpB n)) = false := hg
        simpa using this
      obtain ⟨K, rfl, hK⟩ := gp_rows hg
      rw [List.length_map] at hl2
      walk_at "v"
      refine vs_eq (rise_any hK) ⟨by rw [List.length_map, List.length_map, List.length_zip]; omega, ?_⟩
      refine ⟨_, all_atJ _, ?_⟩
      walk_at "v"
      refine if_any (fun ha => ?_) fun ha => ?_
      · have ha : ¬ K.Pairwise lex2 := fun pw => by
          rw [(adj_pw hK).mpr pw] at ha
          cases ha
        walk_at "v"
        refine no ?_
        rintro ⟨K', e, _, pw, _⟩
        rw [tup_rows e] at ha
        exact absurd pw ha
      · have pw : K.Pairwise lex2 := (adj_pw hK).mp (by simpa using ha)
        have key : ShT n W rs (.tup (K.map tupI)) ↔ ∀ p ∈ K, (decide (p1 p ∈ rs) || !decide (p0 p ∈ rs)) = true ∧ Ans W K p := by
          constructor
          · rintro ⟨K', e, _, _, q⟩
            rw [tup_rows e]; exact q
          · exact fun q => ⟨K, rfl, hK, pw, q⟩
        walk_at "v"
        refine vs_for (c := tupI) (e := fun _ : Unit => ()) (fun pre _ s => s = st ∧ ∀ p ∈ pre, (decide (p1 p ∈ rs) || !decide (p0 p ∈ rs)) = true ∧ Ans W K p) (t0 := ()) rfl ⟨rfl, fun q m => nomatch m⟩ ?_ ?_
        · rintro pre p post _ st ex ⟨rfl, hpre⟩
          have mp : p ∈ K := by rw [ex]; simp
          obtain ⟨i, j, rfl, i0, i1, j0, j1⟩ := hK p mp
          show Wp (un2 (.tup [.int i, .int j]) _) _ _
          refine vs_un2 ?_
          have cont : (decide (j ∈ rs) || !decide (i ∈ rs)) = true → Wp (seqO (S := Unit) (.bind (itW (callM (L2' m__law_ways_from) (consA (.ret (.tup [.int L, .int n, .int f, .tup (W.map tupI), .str kind, .tup (rs.map .int)])) (consA (.ret (.int i)) nilA)))) fun us => forO (fun e_19 s_14 => un2 e_19 fun letter_15 end_16 => (iteW (notT (testW (op1 anyU (lcW (itW (callM (L3 m__law_ends) (consA (.ret (.tup [.int L, .int n, .int f, .tup (W.map tupI), .str kind, .tup (rs.map .int)])) (consA (.ret (.int j)) (consA (.ret letter_15) nilA))))) (fun its_17 => (.ret true)) fun its_17 => (op2 inSU (tupW (consA (.ret end_16) (consA (.ret its_17) nilA))) (.ret (.tup (K.map tupI)))))))) (rtO (.ret (.bl false))) (nxO ()))) us ()) fun s_14 => (nxO () : M (Out Unit Unit))) st (ForK (fun s' st' => ∃ t : Unit, s' = () ∧ st' = st ∧ ∀ p ∈ pre ++ [[i, j]], (decide (p1 p ∈ rs) || !decide (p0 p ∈ rs)) = true ∧ Ans W K p) (SeqK (fun _ => rtO (.ret (.bl true))) (FnK fun r s => s = st ∧ ∃ b, r = .bl b ∧ (b = true ↔ ShT n W rs (.tup (K.map tupI)))))) := fun hc => by
            walk_at "v"
            refine vs_eq (lwf_eq (f := f) (kind := kind) (B := .tup (rs.map .int)) hW hl i) ?_
            walk_at "v"
            refine vs_for (c := tupI) (e := fun _ : Unit => ()) (fun pre2 _ s => s = st ∧ ∀ q ∈ pre2, ∃ e', [j, p0 q, e'] ∈ W ∧ [p1 q, e'] ∈ K) (t0 := ()) rfl ⟨rfl, fun q m => nomatch m⟩ ?_ ?_
            · rintro pre2 q post2 _ st ex2 ⟨rfl, hpre2⟩
              have mq : q ∈ wfL W i := by rw [ex2]; simp
              obtain ⟨l, e, rfl, hw⟩ := (mem_wfL hW).mp mq
              show Wp (un2 (.tup [.int l, .int e]) _) _ _
              refine vs_un2 ?_
              walk_at "v"
              refine vs_eq (lwe_eq (f := f) (kind := kind) (B := .tup (rs.map .int)) hW hl j l) ?_
              have c1 := comp_eq (c := U.int) (d := U.bl) (p := fun _ : Int => true) (g := fun e' : Int => decide ([e, e'] ∈ K)) (xs := weL W j l) (wt := fun its_17 => (.ret true)) (we := fun its_17 => (op2 inSU (tupW (consA (.ret (.int e)) (consA (.ret its_17) nilA))) (.ret (.tup (K.map tupI))))) fun e' m => ⟨rfl, fun _ => eq_of_wp fun st => by
                  walk_at "v"
                  refine wo_in_rt (x := [e, e']) ?_
                  exact ⟨rfl, rfl⟩⟩
              rw [List.filter_eq_self.mpr (fun _ _ => rfl)] at c1
              have hwl := weL_len (W := W) (i := j) (l := l)
              walk_at "v"
              refine vs_eq c1 ⟨by rw [List.length_map, List.length_map]; omega, ?_⟩
              have hiff : ((weL W j l).map fun e' => decide ([e, e'] ∈ K)).any id = true ↔ ∃ e', [j, l, e'] ∈ W ∧ [e, e'] ∈ K := by
                rw [List.any_map, List.any_eq_true]
                exact ⟨fun ⟨e', m, h⟩ => ⟨e', (mem_weL hW).mp m, of_decide_eq_true h⟩, fun ⟨e', m, h⟩ => ⟨e', (mem_weL hW).mpr m, decide_eq_true h⟩⟩
              refine ⟨_, any_at _, ?_⟩
              walk_at "v"
              refine if_any (fun hq => ?_) fun hq => ?_
              · have hq : ¬ ∃ e', [j, l, e'] ∈ W ∧ [e, e'] ∈ K := fun z => by
                  rw [hiff.mpr z] at hq
                  cases hq
                walk_at "v"
                refine ⟨rfl, false, rfl, ⟨fun z => (nomatch z), fun z => absurd ((key.mp z) _ mp).2 fun an => hq (an l e hw)⟩⟩
              · have hq : ∃ e', [j, l, e'] ∈ W ∧ [e, e'] ∈ K := hiff.mp (by simpa using hq)
                walk_at "v"
                refine ⟨(), rfl, rfl, fun q m => ?_⟩
                rcases List.mem_append.mp m with m | m
                · exact hpre2 q m
                · rw [List.mem_singleton.mp m]; exact hq
            · rintro _ st ⟨rfl, hall⟩
              walk_at "v"
              refine ⟨(), rfl, rfl, fun p m => ?_⟩
              rcases List.mem_append.mp m with m | m
              · exact hpre p m
              · rw [List.mem_singleton.mp m]
                exact ⟨hc, fun l e hw => hall [l, e] ((mem_wfL hW).mpr ⟨l, e, rfl, hw⟩)⟩
          refine vs_seq (Wp.mono (Q := fun o s => s = st ∧ ((o = .rt (.bl false) ∧ (decide (j ∈ rs) || !decide (i ∈ rs)) = false) ∨ (o = .nx () ∧ (decide (j ∈ rs) || !decide (i ∈ rs)) = true))) ?_ ?_)
          · walk_at "v"
            refine if_any (fun hi => ?_) fun hi => ?_
            · walk_at "v"
              refine if_any (fun hj => ?_) fun hj => ?_
              · walk_at "v"
                have hj : (!decide (j ∈ rs)) = true := hj
                exact ⟨rfl, .inl ⟨rfl, by rw [hi]; simpa using hj⟩⟩
              · walk_at "v"
                have hj : (!decide (j ∈ rs)) = false := hj
                exact ⟨rfl, .inr ⟨rfl, by simp at hj; simp [hj]⟩⟩
            · walk_at "v"
              exact ⟨rfl, .inr ⟨rfl, by rw [hi]; simp⟩⟩
          · rintro _ _ ⟨rfl, ⟨rfl, hb⟩ | ⟨rfl, hb⟩⟩
            · refine sk_rt ?_
              show _ ∧ _
              refine ⟨rfl, false, rfl, ⟨fun z => (nomatch z), fun z => ?_⟩⟩
              have := ((key.mp z) _ mp).1
              have this : (decide (j ∈ rs) || !decide (i ∈ rs)) = true := this
              rw [hb] at this
              cases this
            · exact sk_nx (cont hb)
        · rintro _ st ⟨rfl, hall⟩
          walk_at "v"
          exact ⟨rfl, true, rfl, ⟨fun _ => key.mpr hall, fun _ => rfl⟩⟩
  · have e : isTB u = false := by
      cases u <;> first | rfl | exact absurd ⟨_, rfl⟩ ht
    rw [e]
    walk_at "v"
    refine no ?_
    rintro ⟨K, e, _⟩
    exact absurd ⟨_, e⟩ ht
end

noncomputable def restD (drawn_1 lot_2 left_3 : U) : M (Out Unit Unit) := (.bind (op2 addU (op1 lenU (.ret lot_2)) (.ret (.int 1))) fun many_4 => (seqO (S := U × U) (whileO (fun s_5 => (testW (op2 ltU (op1 lenU (.ret s_5.2)) (.ret s_5.1)))) (fun s_5 => (.bind (op1 lenU (.ret s_5.2)) fun many_6 => (.bind (lstW nilA) fun kept_7 => (seqO (S := U) (.bind (itW (.ret s_5.2)) fun us => forO (fun e_28 s_8 => un2 e_28 fun one_9 other_10 => (.bind (.ret (.bl true)) fun good_11 => (seqO (S := U) (.bind (itW (callM (L2' m__law_ways_from) (consA (.ret drawn_1) (consA (.ret one_9) nilA)))) fun us => forO (fun e_26 s_12 => un2 e_26 fun letter_13 end_14 => (.bind (lcW (itW (callM (L3 m__law_ends) (consA (.ret drawn_1) (consA (.ret other_10) (consA (.ret letter_13) nilA))))) (fun its_18 => (.ret true)) fun its_18 => (tupW (consA (.ret end_14) (consA (.ret its_18) nilA)))) fun some_17 => (.bind (andW (.ret s_12) (op1 anyU (lcW (itW (.ret some_17)) (fun pair_23 => (.ret true)) fun pair_23 => (op2 inSU (.ret pair_23) (.ret s_5.2))))) fun good_22 => (nxO good_22)))) us good_11) fun s_12 => (iteW (testW (.ret s_12)) (.bindS (.bind (.ret (s_8, id)) fun h => .bind (consA (tupW (consA (.ret one_9) (consA (.ret other_10) nilA))) nilA) fun xs => .o (mutL appL h xs)) fun kept_25 => (nxO kept_25)) (nxO s_8))))) us kept_7) fun s_8 => (.bind (.ret s_8) fun left_27 => (nxO (many_6, left_27))))))) (many_4, left_3)) fun s_5 => (rtO (op1 tupleU (.ret s_5.2)))))
section
variable {L n f : Int} {W : List (List Int)} {kind : Str} {rs : List Int}
theorem rest_ok {K0 : List (List Int)} {st : Sto} (hW : WOk n L W) (hl : W.length < 50000) (hp : ∀ p ∈ K0, Pr n p) (nd : K0.Nodup) (kl : K0.length ≤ 10000) :
    Wp (restD (ptD L n f W kind (.tup (rs.map .int))) (.lst (K0.map tupI)) (.lst (K0.map tupI))) st (FnK fun u s => s = st ∧ ∃ k, stpS W (itS W K0 k) = itS W K0 k ∧ u = .tup ((itS W K0 k).map tupI)) := by
  have sz : (1000000 : Nat) ≤ sizeLine := by decide
  unfold restD
  walk_at "v"
  refine vs_while (e := fun t : Int × Nat => ((U.int t.1, .lst ((itS W K0 t.2).map tupI)) : U × U)) (t0 := ((K0.length : Int) + 1, 0)) (fun t s => s = st ∧ ((itS W K0 t.2).length : Int) ≤ t.1 ∧ (¬ ((itS W K0 t.2).length : Int) < t.1 → stpS W (itS W K0 t.2) = itS W K0 t.2))
    (fun t => 2 * (itS W K0 t.2).length + if ((itS W K0 t.2).length : Int) < t.1 then 1 else 0) ?_ (by rw [List.length_map]; rfl) ⟨rfl, by show (K0.length : Int) ≤ (K0.length : Int) + 1; omega, fun h => absurd (show (K0.length : Int) < (K0.length : Int) + 1 by omega) h⟩
  rintro ⟨m, k⟩ st ⟨rfl, hm, hk⟩
  have h_pr : ∀ p ∈ itS W K0 k, Pr n p := fun p mp => hp p (itS_sub k p mp)
  have h_len := itS_len (W := W) (S := K0) k
  have h_nx : itS W K0 (k + 1) = stpS W (itS W K0 k) := rfl
  simp only at hm hk ⊢
  generalize eS : itS W K0 k = S at *
  walk_at "v"
  rw [List.length_map]
  refine if_any (fun h => ?_) fun h => ?_
  · have h : (S.length : Int) < m := of_decide_eq_true h
    walk_at "v"
    refine vs_for (c := tupI) (e := fun K : List (List Int) => U.lst (K.map tupI)) (fun pre K s => s = st ∧ K = pre.filter (ansB W S)) (t0 := []) rfl ⟨rfl, rfl⟩ ?_ ?_
    · rintro pre x post K st ex ⟨rfl, rfl⟩
      have mx : x ∈ S := by rw [ex]; simp
      obtain ⟨i, j, rfl, i0, i1, j0, j1⟩ := h_pr x mx
      show Wp (un2 (.tup [.int i, .int j]) _) _ _
      refine vs_un2 ?_
      walk_at "v"
      refine vs_eq (lwf_eq (f := f) hW hl i) ?_
      walk_at "v"
      refine vs_for (c := tupI) (e := U.bl) (fun pre b s => s = st ∧ (b = true ↔ ∀ q ∈ pre, ∃ e', [j, p0 q, e'] ∈ W ∧ [p1 q, e'] ∈ S)) (t0 := true) rfl ⟨rfl, by simp⟩ ?_ ?_
      · rintro pre2 q post2 b st ex2 ⟨rfl, hb⟩
        have mq : q ∈ wfL W i := by rw [ex2]; simp
        obtain ⟨l, e, rfl, hw⟩ := (mem_wfL hW).mp mq
        show Wp (un2 (.tup [.int l, .int e]) _) _ _
        refine vs_un2 ?_
        walk_at "v"
        refine vs_eq (lwe_eq (f := f) hW hl j l) ?_
        have c1 := comp_eq (c := U.int) (d := tupI) (p := fun _ : Int => true) (g := fun e' : Int => [e, e']) (xs := weL W j l) (wt := fun pair_12 => (.ret true)) (we := fun its_27 => (tupW (consA (.ret (.int e)) (consA (.ret its_27) nilA)))) fun e' m => ⟨rfl, fun _ => eq_of_wp fun st => by
            walk_at "v"
            exact ⟨rfl, rfl⟩⟩
        rw [List.filter_eq_self.mpr (fun _ _ => rfl)] at c1
        have hwl := weL_len (W := W) (i := j) (l := l)
        walk_at "v"
        refine vs_eq c1 ⟨by rw [List.length_map, List.length_map]; omega, ?_⟩
        have hiff : (((weL W j l).map fun e' => [e, e']).map fun q => decide (q ∈ S)).any id = true ↔ ∃ e', [j, l, e'] ∈ W ∧ [e, e'] ∈ S := by
          rw [List.any_map, List.any_map, List.any_eq_true]
          exact ⟨fun ⟨e', m, h⟩ => ⟨e', (mem_weL hW).mp m, of_decide_eq_true h⟩, fun ⟨e', m, h⟩ => ⟨e', (mem_weL hW).mpr m, decide_eq_true h⟩⟩
        have hnew : ∀ b2 : Bool, (b2 = true ↔ b = true ∧ ∃ e', [j, l, e'] ∈ W ∧ [e, e'] ∈ S) → (b2 = true ↔ ∀ q ∈ pre2 ++ [[l, e]], ∃ e', [j, p0 q, e'] ∈ W ∧ [p1 q, e'] ∈ S) := fun b2 h2 => by
          rw [h2, hb]
          constructor
          · rintro ⟨h3, h4⟩ q m
            rcases List.mem_append.mp m with m | m
            · exact h3 q m
            · rw [List.mem_singleton.mp m]; exact h4
          · intro h3
            exact ⟨fun q m => h3 q (List.mem_append_left _ m), h3 [l, e] (List.mem_append_right _ (List.mem_singleton.mpr rfl))⟩
        refine Wp.bind (vs_andW ?_)
        walk_at "v"
        cases b with
        | false =>
          refine if_f ?_
          walk_at "v"
          exact ⟨false, rfl, rfl, hnew false (by simp)⟩
        | true =>
          refine if_t ?_
          have c2 := comp_eq (c := tupI) (d := U.bl) (p := fun _ : List Int => true) (g := fun q : List Int => decide (q ∈ S)) (xs := (weL W j l).map fun e' => [e, e']) (wt := fun pair_12 => (.ret true)) (we := fun pair_32 => (op2 inSU (.ret pair_32) (.ret (.lst (S.map tupI))))) fun q m => ⟨rfl, fun _ => eq_of_wp fun st => by
              walk_at "v"
              refine wo_in_r ?_
              exact ⟨rfl, rfl⟩⟩
          rw [List.filter_eq_self.mpr (fun _ _ => rfl)] at c2
          walk_at "v"
          refine vs_eq c2 ⟨by rw [List.length_map, List.length_map, List.length_map]; omega, ?_⟩
          refine ⟨_, any_at _, ?_⟩
          walk_at "v"
          exact ⟨_, rfl, rfl, hnew _ (by rw [hiff]; simp)⟩
      · rintro b st ⟨rfl, hb⟩
        have hans : b = ansB W S [i, j] := by
          rw [Bool.eq_iff_iff, hb, ansB_iff]
          exact ⟨fun h l e hw => h [l, e] ((mem_wfL hW).mpr ⟨l, e, rfl, hw⟩), fun h q m => by
            obtain ⟨l, e, rfl, hw⟩ := (mem_wfL hW).mp m
            exact h l e hw⟩
        subst hans
        walk_at "v"
        have hpl : (pre.filter (ansB W S)).length < S.length := by
          have h1 := List.length_filter_le (ansB W S) pre
          have h2 := congrArg List.length ex
          rw [List.length_append, List.length_cons] at h2
          omega
        refine if_any (fun h => ?_) fun h => ?_
        · walk_at "v"
          refine wo_app (by rw [List.length_map]; omega) ?_
          walk_at "v"
          refine ⟨_, ?_, rfl, rfl⟩
          rw [List.filter_append, List.filter_cons_of_pos h, List.map_append]
          rfl
        · walk_at "v"
          refine ⟨_, rfl, rfl, ?_⟩
          rw [List.filter_append, List.filter_cons_of_neg (by rw [h]; exact Bool.false_ne_true), List.filter_nil, List.append_nil]
    · rintro K st ⟨rfl, rfl⟩
      walk_at "v"
      have h_st : (stpS W S).length ≤ S.length := stpS_len
      refine ⟨((S.length : Int), k + 1), by rw [List.length_map]; exact congrArg _ (congrArg _ (congrArg _ h_nx.symm)), ⟨rfl, ?_, ?_⟩, ?_⟩
      · show ((itS W K0 (k + 1)).length : Int) ≤ (S.length : Int)
        rw [h_nx]; omega
      · intro h2
        have h2 : ¬ ((itS W K0 (k + 1)).length : Int) < (S.length : Int) := h2
        rw [h_nx] at h2
        have h3 : stpS W S = S := stpS_same (by omega)
        show stpS W (itS W K0 (k + 1)) = itS W K0 (k + 1)
        rw [h_nx, h3, h3]
      · show 2 * (itS W K0 (k + 1)).length + (if ((itS W K0 (k + 1)).length : Int) < (S.length : Int) then 1 else 0) < 2 * S.length + if (S.length : Int) < m then 1 else 0
        rw [h_nx, if_pos h]
        split <;> omega
  · have h : ¬ (S.length : Int) < m := of_decide_eq_false h
    walk_at "v"
    exact ⟨rfl, k, by rw [eS]; exact hk h, by rw [eS]⟩
theorem less_ok {K0 : List (List Int)} {st : Sto} (hW : WOk n L W) (hl : W.length < 50000) (hp : ∀ p ∈ K0, Pr n p) (nd : K0.Nodup) (kl : K0.length ≤ 10000) :
    Wp (m__law_less (ptD L n f W kind (.tup (rs.map .int))) (.lst (K0.map tupI))) st fun u s => s = st ∧ ∃ k, stpS W (itS W K0 k) = itS W K0 k ∧ u = .tup ((itS W K0 k).map tupI) := by
  refine .fn ?_
  exact (rest_ok (f := f) (kind := kind) (rs := rs) hW hl hp nd kl).mono fun o s q => by cases o <;> exact q
end

section
variable {L n f : Int} {W : List (List Int)} {kind : Str} {rs : List Int}
theorem law_direct_ok {st : Sto} (hW : WOk n L W) (hl : W.length < 50000) (l0 : 1 ≤ L) (l1 : L ≤ 4) (n0 : 1 ≤ n) (n1 : n ≤ 100) :
    Wp (m__law_direct (ptD L n f W kind (.tup (rs.map .int)))) st fun u s => s = st ∧ ∃ k, stpS W (itS W (S0 n rs) k) = itS W (S0 n rs) k ∧ u = .tup ((itS W (S0 n rs) k).map tupI) := by
  have sz : (1000000 : Nat) ≤ sizeLine := by decide
  have hS0 := S0_len (n := n) (rs := rs) n0 n1
  unfold m__law_direct ptD
  walk_at "v"
  rw [rngI_map]
  refine vs_for (c := U.int) (e := fun K : List (List Int) => U.lst (K.map tupI)) (fun pre K s => s = st ∧ K = pre.flatMap fun i => ((rngI n).filter fun j => decide (j ∈ rs) || !decide (i ∈ rs)).map fun j => [i, j]) (t0 := []) rfl ⟨rfl, rfl⟩ ?_ ?_
  · rintro pre x post K st ex ⟨rfl, rfl⟩
    walk_at "v"
    rw [rngI_map]
    have c := comp_eq (c := U.int) (d := tupI) (p := fun j => decide (j ∈ rs) || !decide (x ∈ rs)) (g := fun j => [x, j]) (xs := rngI n) (wt := fun other_6 =>
        orT
          (testW
            (op2 notInSU (M.ret (U.int x))
              (op2 ixU (M.ret (ptD L n f W kind (.tup (rs.map .int)))) (M.ret (U.int 5)))))
          (testW
            (op2 inSU (M.ret other_6)
              (op2 ixU (M.ret (ptD L n f W kind (.tup (rs.map .int)))) (M.ret (U.int 5)))))) (we := fun other_6 => tupW (consA (M.ret (U.int x)) (consA (M.ret other_6) nilA))) fun j m => ⟨eq_of_wp fun st => by
        unfold ptD
        walk_at "v"
        refine if_any (fun h => ?_) fun h => ?_
        · rw [h]
          exact ⟨by simp, rfl⟩
        · rw [h]
          walk_at "v"
          exact ⟨by simp, rfl⟩, fun _ => eq_of_wp fun st => by
        walk_at "v"
        exact ⟨rfl, rfl⟩⟩
    have hf : ((rngI n).filter fun j => decide (j ∈ rs) || !decide (x ∈ rs)).length ≤ n.toNat := by
      have := List.length_filter_le (fun j => decide (j ∈ rs) || !decide (x ∈ rs)) (rngI n)
      rw [rngI_len] at this; exact this
    refine vs_eq c ⟨by rw [List.length_map, List.length_map]; omega, ?_⟩
    walk_at "v"
    refine wo_ext ?_ ?_
    · rw [List.length_map, List.length_map, List.length_map]
      have hp : (pre.flatMap fun i => ((rngI n).filter fun j => decide (j ∈ rs) || !decide (i ∈ rs)).map fun j => [i, j]).length ≤ pre.length * n.toNat := by
        clear ex
        induction pre with
        | nil => simp
        | cons y ys ih =>
          have h2 := List.length_filter_le (fun j => decide (j ∈ rs) || !decide (y ∈ rs)) (rngI n)
          rw [rngI_len] at h2
          rw [List.flatMap_cons, List.length_append, List.length_map, List.length_cons, Nat.succ_mul]
          omega
      have hpl : pre.length ≤ n.toNat := by
        have := congrArg List.length ex
        rw [rngI_len, List.length_append] at this
        omega
      have : pre.length * n.toNat ≤ 100 * 100 := Nat.mul_le_mul (by omega) (by omega)
      omega
    walk_at "v"
    refine ⟨_, ?_, rfl, rfl⟩
    rw [List.flatMap_append, List.map_append]
    simp
  · rintro K st ⟨rfl, rfl⟩
    have eS : ((rngI n).flatMap fun i => ((rngI n).filter fun j => decide (j ∈ rs) || !decide (i ∈ rs)).map fun j => [i, j]) = S0 n rs := by
      unfold S0 apR
      rw [List.filter_flatMap]
      congr 1
      funext i
      rw [List.filter_map]
      rfl
    rw [eS]
    exact (rest_ok (f := f) (kind := kind) (rs := rs) hW hl (fun p m => S0_pr m) S0_nd hS0).mono fun o s q => q
theorem fix_sh {K0 : List (List Int)} {k : Nat} (hs : ∀ p ∈ K0, p ∈ S0 n rs) (pw : K0.Pairwise lex2) (fx : stpS W (itS W K0 k) = itS W K0 k) : ShP n W rs (itS W K0 k) := by
  refine ⟨fun p m => S0_pr (rs := rs) (hs p (itS_sub k p m)), itS_pw pw k, fun p m => ⟨?_, ?_⟩⟩
  · exact (List.mem_filter.mp (hs p (itS_sub k p m))).2
  · have m' := m
    rw [← fx] at m'
    exact ansB_iff.mp (List.mem_filter.mp m').2
def alR (n : Int) : List (List Int) := (rngI n).map fun r => [r, r]
theorem al_sh (hW : WOk n L W) : ShP n W rs (alR n) := by
  have hp : ∀ p ∈ alR n, Pr n p := fun p m => by
    obtain ⟨r, mr, rfl⟩ := List.mem_map.mp m
    have := mem_rngI.mp mr
    exact ⟨r, r, rfl, this.1, this.2, this.1, this.2⟩
  refine ⟨hp, List.pairwise_map.mpr ((rngI_pw n).imp fun h => .inl h), fun p m => ?_⟩
  obtain ⟨r, mr, rfl⟩ := List.mem_map.mp m
  refine ⟨?_, fun l e hw => ⟨e, hw, ?_⟩⟩
  · show (decide (r ∈ rs) || !decide (r ∈ rs)) = true
    cases decide (r ∈ rs) <;> rfl
  · obtain ⟨_, _, _, e1, _, _, _, _, h1, h2⟩ := hW.1 _ hw
    cases e1
    exact List.mem_map.mpr ⟨e, mem_rngI.mpr ⟨h1, h2⟩, rfl⟩
theorem nil_sh : ShP n W rs [] := ⟨fun p m => (nomatch m), .nil, fun p m => nomatch m⟩
end
mutual
theorem pd_pdD : ∀ (u : U) (d : PyData), pd u = some d → pdD u = some d
  | .non, _, e | .bl _, _, e | .int _, _, e | .str _, _, e => e
  | .tup us, d, e => by
    obtain ⟨ds, e1, rfl⟩ := Option.map_eq_some_iff.mp (show (pdAll us).map .tuple = some d from e)
    show (pdsD us).map PyData.tuple = _
    rw [pds_pdD us ds e1]; rfl
  | .lst us, d, e => by
    obtain ⟨ds, e1, rfl⟩ := Option.map_eq_some_iff.mp (show (pdAll us).map .list = some d from e)
    show (pdsD us).map PyData.list = _
    rw [pds_pdD us ds e1]; rfl
  | .frl us, d, e => by
    obtain ⟨ds, e1, rfl⟩ := Option.map_eq_some_iff.mp (show (pdAll us).map .list = some d from e)
    show (pdsD us).map PyData.list = _
    rw [pds_pdD us ds e1]; rfl
  | .dct _ _, _, e | .dcT _ _, _, e | .dcN _ _, _, e | .obj _ _ _, _, e | .top _, _, e | .loc _, _, e | .exc _, _, e => by cases e
theorem pds_pdD : ∀ (us : List U) (ds : List PyData), pdAll us = some ds → pdsD us = some ds
  | [], _, e => e
  | u :: us, ds, e => by
    rw [pdAll] at e
    cases e1 : pd u with
    | none => rw [e1] at e; cases e
    | some d =>
      cases e2 : pdAll us with
      | none => rw [e1, e2] at e; cases e
      | some ds' =>
        rw [e1, e2] at e
        rw [pdsD, pd_pdD u d e1, pds_pdD us ds' e2]
        exact e
end
theorem reprE_sm {u : U} (h : smU u = true) (hd : dpU u ≤ 60) (hw : wtU u ≤ 1000000) : ∃ x, reprE u = some (.str x) := by
  obtain ⟨x, e⟩ := repr_sm h hd hw
  refine ⟨x, ?_⟩
  unfold reprU at e
  cases e1 : pd u with
  | none => rw [e1] at e; cases e
  | some d =>
    rw [e1] at e
    unfold reprE
    rw [pd_pdD u d e1]
    simp only at e ⊢
    split at e
    · rename_i q
      rw [if_pos]
      · exact e
      · simp [shD, q.1, q.2.2.1, q.2.2.2]
    · cases e
def Sm (u : U) : Prop := smU u = true ∧ dpU u ≤ 2 ∧ wtU u ≤ 400
def Lt (m : Nat) (u : U) : Prop := ∃ us, u = .tup us ∧ (∀ x ∈ us, Sm x) ∧ us.length ≤ m
def Th (u : U) : Prop := Dt u ∧ (∀ us, u = .tup us → us.length ≤ 10000) ∧ ∃ x, reprE u = some (.str x)
theorem wt_len : ∀ {us : List U} {k : Nat}, (∀ x ∈ us, wtU x ≤ k) → wtA us ≤ us.length * (k + 1)
  | [], _, _ => Nat.zero_le _
  | u :: us, k, h => by
    have h1 := h u List.mem_cons_self
    have h2 := wt_len (us := us) (k := k) fun x m => h x (List.mem_cons_of_mem _ m)
    simp only [wtA, List.length_cons, Nat.succ_mul]
    omega
theorem dp_len : ∀ {us : List U} {k : Nat}, (∀ x ∈ us, dpU x ≤ k) → dpA us ≤ k
  | [], _, _ => Nat.zero_le _
  | u :: us, k, h => by
    have h1 := h u List.mem_cons_self
    have h2 := dp_len (us := us) (k := k) fun x m => h x (List.mem_cons_of_mem _ m)
    simp only [dpA]
    omega
theorem lt_sm {m : Nat} {u : U} (h : Lt m u) (hm : m ≤ 1200) : smU u = true ∧ dpU u ≤ 3 ∧ wtU u ≤ 481200 := by
  obtain ⟨us, rfl, h, hl⟩ := h
  have h1 := wt_len (us := us) (k := 400) fun x m => (h x m).2.2
  have h2 := dp_len (us := us) (k := 2) fun x m => (h x m).2.1
  have h3 : us.length * (400 + 1) ≤ 1200 * 401 := Nat.mul_le_mul (by omega) (by omega)
  exact ⟨sm_all fun x m => (h x m).1, by simp only [dpU]; omega, by simp only [wtU]; omega⟩
theorem lt_th {m : Nat} {u : U} (h : Lt m u) (hm : m ≤ 1200) : Th u := by
  obtain ⟨h1, h2, h3⟩ := lt_sm h hm
  refine ⟨.inl h1, fun us e => ?_, reprE_sm h1 (by omega) (by omega)⟩
  obtain ⟨us', rfl, _, hl⟩ := h
  cases e
  omega
theorem sm_row {a b : Int} (ha : -10 ≤ a) (ha' : a ≤ 100) (hb : -10 ≤ b) (hb' : b ≤ 100) : Sm (.tup [.int a, .int b]) := by
  refine ⟨?_, by simp [dpU, dpA], by simp [wtU, wtA]⟩
  have h1 : a.natAbs < 1000000000000 := by omega
  have h2 : b.natAbs < 1000000000000 := by omega
  simp [smU, smA, h1, h2]
theorem lt_rows {n : Int} {m : Nat} {K : List (List Int)} (h : ∀ p ∈ K, Pr n p) (n1 : n ≤ 100) (hl : K.length ≤ m) : Lt m (.tup (K.map tupI)) := by
  refine ⟨_, rfl, fun x mx => ?_, by rw [List.length_map]; exact hl⟩
  obtain ⟨p, mp, rfl⟩ := List.mem_map.mp mx
  obtain ⟨i, j, rfl, i0, i1, j0, j1⟩ := h p mp
  exact sm_row (by omega) (by omega) (by omega) (by omega)
theorem sm_lit {u : U} (h : smU u = true) (hd : dpU u ≤ 60) (hw : wtU u ≤ 1000000) (hl : ∀ us, u = .tup us → us.length ≤ 10000) : Th u := ⟨.inl h, hl, reprE_sm h hd hw⟩

theorem wo_addT {a b : List U} {P : U → Prop} {A B : Nat} (la : a.length ≤ A) (lb : b.length ≤ B) (l : A + B ≤ sizeLine) (h : (a ++ b).length ≤ A + B → P (.tup (a ++ b))) : WpO (addU (.tup a) (.tup b)) P := wo_add_t (by omega) (h (by rw [List.length_append]; omega))
theorem wo_addL {a b : List U} {P : U → Prop} {A B : Nat} (la : a.length ≤ A) (lb : b.length ≤ B) (l : A + B ≤ sizeLine) (h : (a ++ b).length ≤ A + B → P (.lst (a ++ b))) : WpO (addU (.lst a) (.lst b)) P := wo_add_l (by omega) (h (by rw [List.length_append]; omega))
theorem app_sm {a b : List U} (ha : ∀ x ∈ a, Sm x) (hb : ∀ x ∈ b, Sm x) : ∀ x ∈ a ++ b, Sm x := fun x m => (List.mem_append.mp m).elim (ha x) (hb x)
theorem one_sm {a : U} (h : Sm a) : ∀ x ∈ [a], Sm x := fun x m => by rw [List.mem_singleton.mp m]; exact h
theorem bent_ok {ms : Sto} {c m : Nat} {n : Int} {lot : U} {st : Sto} (hl : Lt m lot) (hm : m ≤ 300) (h : Bx ms c st) (hc : c < 100000) (n0 : 1 ≤ n) (n1 : n ≤ 50) :
    Wp (m__law_bent (.loc ms.length) lot (.int n)) st fun u s => Lt (4 * m + 2) u ∧ Bx ms (c + 10) s := by
  have sz : (1000000 : Nat) ≤ sizeLine := by decide
  obtain ⟨us, rfl, hs, hlen⟩ := hl
  have cl : ∀ {lo hi : Option Int}, (EL.cut us lo hi).length ≤ m := Nat.le_trans EL.cut_len hlen
  have cs : ∀ {lo hi : Option Int}, ∀ x ∈ EL.cut us lo hi, Sm x := fun x mx => hs x (EL.cut_sub mx)
  unfold m__law_bent
  walk_at "v"
  refine tk h (by omega) (by decide) (by decide) fun k st k0 k1 h => ?_
  walk_at "v"
  refine tk h (by omega) (by omega) (by omega) fun a st a0 a1 h => ?_
  refine Wp.bind (Wp.mono (Q := fun u s => (∃ p q : Int, u = U.tup [.int p, .int q] ∧ -1 ≤ p ∧ p ≤ 51 ∧ -1 ≤ q ∧ q ≤ 51) ∧ Bx ms (c + 5) s) ?_ ?_)
  · walk_at "v"
    refine tk h (by omega) (by omega) (by omega) fun x st x0 x1 h => ?_
    walk_at "v"
    refine tk h (by omega) (by omega) (by omega) fun y st y0 y1 h => ?_
    walk_at "v"
    refine tk h (by omega) (by decide) (by decide) fun z st z0 z1 h => ?_
    walk_at "v"
    by_cases e : z = 0
    · refine wo_eq (a := .int 1) (by rw [decide_eq_true e]; rfl) ?_
      walk_at "v"
      exact ⟨⟨_, _, rfl, by omega, by omega, by omega, by omega⟩, h⟩
    · refine wo_eq (a := .int 0) (by rw [decide_eq_false e]; rfl) ?_
      walk_at "v"
      exact ⟨⟨_, _, rfl, by omega, by omega, by omega, by omega⟩, h⟩
  rintro _ st ⟨⟨p, q, rfl, p0, p1, q0, q1⟩, h⟩
  have hpq : Sm (.tup [.int p, .int q]) := sm_row (by omega) (by omega) (by omega) (by omega)
  walk_at "v"
  refine if_dec (fun hk => ?_) fun hk => ?_
  · walk_at "v"
    refine wo_addT cl cl (by omega) fun l => ?_
    walk_at "v"
    exact ⟨⟨_, rfl, app_sm cs cs, by omega⟩, h.up (by omega)⟩
  walk_at "v"
  refine if_dec (fun hk => ?_) fun hk => ?_
  · walk_at "v"
    refine wo_addL cl (B := 1) (by simp) (by omega) fun l => ?_
    walk_at "v"
    refine wo_addL l cl (by omega) fun l => ?_
    walk_at "v"
    exact ⟨⟨_, rfl, app_sm (app_sm cs (one_sm hpq)) cs, by omega⟩, h.up (by omega)⟩
  walk_at "v"
  refine if_dec (fun hk => ?_) fun hk => ?_
  · walk_at "v"
    refine wo_addT cl cl (by omega) fun l => ?_
    walk_at "v"
    refine wo_addT l cl (by omega) fun l => ?_
    walk_at "v"
    exact ⟨⟨_, rfl, app_sm (app_sm cs cs) cs, by omega⟩, h.up (by omega)⟩
  walk_at "v"
  refine if_dec (fun hk => ?_) fun hk => ?_
  · walk_at "v"
    refine wo_addT cl cl (by omega) fun l => ?_
    walk_at "v"
    refine wo_addT cl l (by omega) fun l => ?_
    walk_at "v"
    refine wo_addT l cl (by omega) fun l => ?_
    walk_at "v"
    exact ⟨⟨_, rfl, app_sm (app_sm cs (app_sm cs cs)) cs, by omega⟩, h.up (by omega)⟩
  walk_at "v"
  refine if_dec (fun hk => ?_) fun hk => ?_
  · walk_at "v"
    refine wo_addT (A := 2) (B := 1) (by simp) (by simp) (by omega) fun l => ?_
    walk_at "v"
    refine tk h (by omega) (by decide) (by decide) fun o st o0 o1 h => ?_
    have hp' : p.natAbs < 1000000000000 := by omega
    have hq' : q.natAbs < 1000000000000 := by omega
    have he : ∃ e, ixU (.lst [.tup [.int p, .int q], .lst [.int p, .int q], .tup ([.int p, .int q] ++ [.int 0]), .tup (EL.cut [.int p, .int q] none (some 1)), .non, .bl true, .int 0, .str "", .tup [.bl true, .int 0], .tup [.int 0, .str "0"], .tup []]) (.int o) = some e ∧ Sm e := by
      have : o = 0 ∨ o = 1 ∨ o = 2 ∨ o = 3 ∨ o = 4 ∨ o = 5 ∨ o = 6 ∨ o = 7 ∨ o = 8 ∨ o = 9 ∨ o = 10 := by omega
      rcases this with rfl | rfl | rfl | rfl | rfl | rfl | rfl | rfl | rfl | rfl | rfl
      · exact ⟨_, rfl, hpq⟩
      · exact ⟨_, rfl, by simp [smU, smA, hp', hq'], by simp [dpU, dpA], by simp [wtU, wtA]⟩
      · exact ⟨_, rfl, by simp [smU, smA, hp', hq'], by simp [dpU, dpA], by simp [wtU, wtA]⟩
      · refine ⟨_, rfl, ?_⟩
        show Sm (.tup [.int p])
        exact ⟨by simp [smU, smA, hp'], by simp [dpU, dpA], by simp [wtU, wtA]⟩
      · exact ⟨_, rfl, by decide, by decide, by decide⟩
      · exact ⟨_, rfl, by decide, by decide, by decide⟩
      · exact ⟨_, rfl, by decide, by decide, by decide⟩
      · exact ⟨_, rfl, by decide +kernel, by decide, by decide +kernel⟩
      · exact ⟨_, rfl, by decide, by decide, by decide⟩
      · exact ⟨_, rfl, by decide +kernel, by decide, by decide +kernel⟩
      · exact ⟨_, rfl, by decide, by decide, by decide⟩
    obtain ⟨e, he, hse⟩ := he
    refine wo_eq he ?_
    walk_at "v"
    refine wo_addT cl (B := 1) (by simp) (by omega) fun l => ?_
    walk_at "v"
    refine wo_addT l cl (by omega) fun l => ?_
    walk_at "v"
    exact ⟨⟨_, rfl, app_sm (app_sm cs (one_sm hse)) cs, by omega⟩, h.up (by omega)⟩
  walk_at "v"
  refine wo_eq (a := .tup us.reverse) rfl ?_
  walk_at "v"
  refine wo_addT hlen (B := 1) (by simp) (by omega) fun l => ?_
  walk_at "v"
  have : k = 6 ∨ k = 7 := by omega
  rcases this with rfl | rfl
  · refine wo_eq rfl ?_
    exact ⟨⟨_, rfl, fun x mx => hs x (List.mem_reverse.mp mx), by rw [List.length_reverse]; omega⟩, h.up (by omega)⟩
  · refine wo_eq rfl ?_
    exact ⟨⟨_, rfl, app_sm hs (one_sm hpq), by omega⟩, h.up (by omega)⟩
theorem deep_ok {ms : Sto} {c m : Nat} {u : U} {st : Sto} (hl : Lt m u) (hm : m ≤ 300) (h : Bx ms c st) (hc : c < 100000) :
    Wp (m__law_deep (.loc ms.length) u) st fun u s => Th u ∧ Bx ms (c + 10) s := by
  have sz : (1000000 : Nat) ≤ sizeLine := by decide
  obtain ⟨h1, h2, h3⟩ := lt_sm hl (by omega)
  unfold m__law_deep
  walk_at "v"
  refine tk h (by omega) (by decide) (by decide) fun k st k0 k1 h => ?_
  walk_at "v"
  refine tk h (by omega) (by decide) (by decide) fun t st t0 t1 h => ?_
  walk_at "v"
  refine vs_forN (e := fun u : U => u) (fun i u s => s = st ∧ smU u = true ∧ dpU u ≤ 3 + i ∧ wtU u ≤ 481200 + i ∧ (i ≠ 0 → ∀ us, u = .tup us → us.length ≤ 1)) (t0 := u) rfl ⟨rfl, h1, by omega, by omega, fun z => absurd rfl z⟩ ?_ ?_
  · rintro i u st hi ⟨rfl, h1, h2, h3, _⟩
    walk_at "v"
    have : k = 0 ∨ k = 1 := by omega
    rcases this with rfl | rfl
    · refine wo_eq rfl ?_
      walk_at "v"
      exact ⟨_, rfl, rfl, by simp [smU, smA, h1], by simp only [dpU, dpA]; omega, by simp only [wtU, wtA]; omega, fun _ us e => by cases e; simp⟩
    · refine wo_eq rfl ?_
      walk_at "v"
      exact ⟨_, rfl, rfl, by simp [smU, smA, h1], by simp only [dpU, dpA]; omega, by simp only [wtU, wtA]; omega, fun _ us e => by cases e⟩
  · rintro u st ⟨rfl, h1, h2, h3, h4⟩
    walk_at "v"
    refine ⟨sm_lit h1 (by omega) (by omega) fun us e => ?_, h.up (by omega)⟩
    have := h4 (by omega) us e
    omega

theorem wo_addLU {a b : List U} {P : U → Prop} (l : a.length + b.length ≤ sizeLine) (h : P (.lst (a ++ b))) : WpO (addLU (.lst a) (.lst b)) P := ⟨_, if_pos l, h⟩
theorem law_ok : ∀ ns : List Int, ns.length ≤ 63 → ∃ st', m_law (.frl (ns.map .int)) [] = some (.ok (.bl true), st') := by
  intro ns hns
  suffices h : Wp (m_law (.frl (ns.map .int))) [] fun u _ => u = .bl true by
    obtain ⟨u, st, e, rfl⟩ := h
    exact ⟨st, e⟩
  have sz : (1000000 : Nat) ≤ sizeLine := by decide
  unfold m_law
  walk_at "v"
  refine wo_eq (a := U.int (if (ns.length : Int) < 3 then (ns.length : Int) else 3)) (by simp [min2U]) ?_
  generalize em : (if (ns.length : Int) < 3 then (ns.length : Int) else 3) = m
  have m0 : 0 ≤ m := by rw [← em]; split <;> omega
  have m1 : m ≤ 3 := by rw [← em]; split <;> omega
  walk_at "v"
  obtain ⟨m', em', m0', m1'⟩ : ∃ m' : Int, max2U (.int 1) (.int m) = some (.int m') ∧ 0 ≤ m' ∧ m' ≤ 3 := by
    have : m = 0 ∨ m = 1 ∨ m = 2 ∨ m = 3 := by omega
    rcases this with rfl | rfl | rfl | rfl <;> exact ⟨_, rfl, by decide, by decide⟩
  refine wo_eq em' ?_
  walk_at "v"
  refine vs_forN (e := fun _ : Unit => ()) (fun _ _ st => st.all cellN = true) (t0 := ()) rfl rfl ?_ ?_
  · rintro i _ ms hi hms
    have cell : ∀ {n : Nat} {st : Sto}, Bx ms n st → st.all cellN = true := fun h => bx_cell h hms
    walk_at "v"
    refine (hand_ok hns (by omega)).mono ?_
    rintro _ st ⟨rfl, hb⟩
    walk_at "v"
    refine tk hb (by omega) (by decide) (by decide) fun a st a0 a1 hb => ?_
    walk_at "v"
    refine (lagain_ok hb (by omega) (by omega) (by omega) (by decide) (by decide)).mono ?_
    rintro _ st ⟨⟨n, n0, n1, f, W, rs, rfl, hh⟩, hb⟩
    obtain ⟨f0, f1, hW, hrs⟩ := hh
    have l0 : 1 ≤ 1 + a := by omega
    have l1 : 1 + a ≤ 4 := by omega
    generalize 1 + a = L at *
    have hl : W.length < 50000 := by have := wok_len_s hW (by omega) l1; omega
    walk_at "v"
    refine of_ok l0 l1 n0 (by omega) f0 f1 hW hl (.again hrs) fun G hG => ?_
    walk_at "v"
    refine (law_direct_ok hW hl l0 l1 n0 (by omega)).mono ?_
    rintro _ st ⟨rfl, k, fx, rfl⟩
    have hK : ShP n W rs (itS W (S0 n rs) k) := fix_sh (fun _ m => m) S0_pw fx
    have hin : ∀ p ∈ itS W (S0 n rs) k, p ∈ S0 n rs := fun p m => itS_sub k p m
    have hKl : (itS W (S0 n rs) k).length ≤ 16 := by
      have h1 := itS_len (W := W) (S := S0 n rs) k
      have h2 : (S0 n rs).length ≤ (apR n).length := List.length_filter_le _ _
      have h3 : n.toNat * n.toNat ≤ 4 * 4 := Nat.mul_le_mul (by omega) (by omega)
      rw [apR_len] at h2
      omega
    generalize itS W (S0 n rs) k = K at *
    have hag : ∀ s, m_as_again (hallObj L n f W "again" (.tup (rs.map .int)) G) s = some (.ok (hallObj L n f W "again" (.tup (rs.map .int)) G), s) := fun s => by rw [again_self]; rfl
    have shw : ∀ {u : U} {st : Sto}, Dt u → (∀ us, u = .tup us → us.length ≤ 10000) → Wp (m_shows_direct (hallObj L n f W "again" (.tup (rs.map .int)) G) u) st fun r s => s = st ∧ ∃ b, r = .bl b ∧ (b = true ↔ ShT n W rs u) := fun hu hul => shows_any hu hul (hag _) hG hW hl l0 l1 n0 (by omega)
    walk_at "v"
    refine wo_eq (a := .int n) rfl ?_
    walk_at "v"
    rw [rngI_map]
    have ca := comp_eq (c := U.int) (d := tupI) (p := fun _ : Int => true) (g := fun r : Int => [r, r]) (xs := rngI n) (wt := fun room_11 => (.ret true)) (we := fun room_11 => (tupW (consA (.ret room_11) (consA (.ret room_11) nilA)))) fun r m => ⟨rfl, fun _ => eq_of_wp fun st => by
        walk_at "v"
        exact ⟨rfl, rfl⟩⟩
    rw [List.filter_eq_self.mpr (fun _ _ => rfl), show ((rngI n).map fun r : Int => [r, r]) = alR n from rfl] at ca
    have hAl : (alR n).length ≤ 16 := by
      unfold alR
      rw [List.length_map, rngI_len]; omega
    refine vs_eq ca ⟨by rw [List.length_map]; omega, ?_⟩
    walk_at "v"
    refine vs_comp (c := tupI) (d := tupI) (fun pre r s => r.Sublist pre ∧ Bx ms (1100 + pre.length) s) ⟨List.Sublist.refl _, hb.up (by simp)⟩ ?_ ?_
    · rintro pre x post r st ex ⟨hr, hb⟩
      have pl : pre.length ≤ 16 := by
        have := congrArg List.length ex
        rw [List.length_append] at this
        omega
      walk_at "v"
      refine tk hb (by omega) (by decide) (by decide) fun t st t0 t1 hb => ?_
      walk_at "v"
      refine if_any (fun h => ?_) fun h => ?_
      · walk_at "v"
        exact ⟨x, rfl, hr.append (List.Sublist.refl _), hb.up (by simp only [List.length_append, List.length_cons, List.length_nil]; omega)⟩
      · exact ⟨hr.trans (List.sublist_append_left _ _), hb.up (by simp only [List.length_append, List.length_cons, List.length_nil]; omega)⟩
    rintro K0 st ⟨hsub, hb⟩
    have hK0l : K0.length ≤ 16 := Nat.le_trans hsub.length_le hKl
    refine ⟨by rw [List.length_map]; omega, ?_⟩
    walk_at "v"
    have hpw0 : K0.Pairwise lex2 := hK.2.1.sublist hsub
    have hp0 : ∀ p ∈ K0, Pr n p := fun p m => hK.1 p (hsub.subset m)
    refine (less_ok hW hl hp0 (lex2_nd hp0 hpw0) (by omega)).mono ?_
    rintro _ st ⟨rfl, k2, fx2, rfl⟩
    have hK2 : ShP n W rs (itS W K0 k2) := fix_sh (fun p m => hin p (hsub.subset m)) hpw0 fx2
    have hK2l : (itS W K0 k2).length ≤ 16 := Nat.le_trans (itS_len k2) hK0l
    generalize itS W K0 k2 = K2 at *
    have hb : Bx ms 1200 st := hb.up (by omega)
    have LA : Lt 16 (.tup (K.map tupI)) := lt_rows hK.1 (by omega) hKl
    have LB : Lt 16 (.tup ((alR n).map tupI)) := lt_rows (al_sh (rs := rs) hW).1 (by omega) hAl
    have LC : Lt 16 (.tup (K2.map tupI)) := lt_rows hK2.1 (by omega) hK2l
    have sh_of : ∀ {K : List (List Int)}, ShP n W rs K → K.length ≤ 16 → ∀ {st}, Wp (m_shows_direct (hallObj L n f W "again" (.tup (rs.map .int)) G) (.tup (K.map tupI))) st fun r s => s = st ∧ r = .bl true := fun {K} h hl st => by
      obtain ⟨t1, t2, _⟩ := lt_th (lt_rows h.1 (by omega) hl) (by decide)
      refine (shw t1 t2).mono ?_
      rintro _ s ⟨rfl, b, rfl, hb⟩
      exact ⟨rfl, by rw [hb.mpr ⟨K, rfl, h⟩]⟩
    walk_at "v"
    refine wo_addLU (by show 4 + 11 ≤ sizeLine; omega) ?_
    walk_at "v"
    refine (deep_ok LA (by decide) hb (by omega)).mono ?_
    rintro dp st ⟨hdp, hb⟩
    walk_at "v"
    refine wo_app (by show 15 < sizeLine; omega) ?_
    have th : ∀ {u : U}, smU u = true → dpU u ≤ 60 → wtU u ≤ 1000000 → (∀ us, u = .tup us → us.length ≤ 10000) → Th u := fun h1 h2 h3 h4 => sm_lit h1 h2 h3 h4
    have hA := lt_sm LA (by decide)
    have h00 : ∀ u ∈ ([.tup (K.map tupI), .tup ((alR n).map tupI), .tup (K2.map tupI), .tup []] ++ [.lst (K.map tupI), .non, .bl true, .int 0, .str "", .str "()", .dct [] [], .lst [], .tup [.tup (K.map tupI)], .tup [.int 0, .int 0], .tup [.tup [.int 0, .int 0], .tup [.int 0, .int 0]]] ++ [dp] : List U), Th u := by
      intro u mu
      simp only [List.cons_append, List.nil_append, List.mem_cons, List.not_mem_nil, or_false] at mu
      rcases mu with rfl | rfl | rfl | rfl | rfl | rfl | rfl | rfl | rfl | rfl | rfl | rfl | rfl | rfl | rfl | rfl
      · exact lt_th LA (by decide)
      · exact lt_th LB (by decide)
      · exact lt_th LC (by decide)
      · exact th (by decide) (by decide) (by decide) fun us e => by cases e; decide
      · exact th hA.1 (by have := hA.2.1; exact Nat.le_trans this (by decide)) (by have := hA.2.2; exact Nat.le_trans this (by decide)) fun us e => by cases e
      · exact th (by decide) (by decide) (by decide) fun us e => by cases e
      · exact th (by decide) (by decide) (by decide) fun us e => by cases e
      · exact th (by decide) (by decide) (by decide) fun us e => by cases e
      · exact th (by decide +kernel) (by decide) (by decide +kernel) fun us e => by cases e
      · exact th (by decide +kernel) (by decide) (by decide +kernel) fun us e => by cases e
      · exact ⟨.inr rfl, (fun us e => nomatch e), ⟨_, rfl⟩⟩
      · exact th (by decide) (by decide) (by decide) fun us e => by cases e
      · refine th (by simp [smU, smA]; exact hA.1) ?_ ?_ fun us e => by cases e; show 1 ≤ 10000; decide
        · have := hA.2.1
          simp only [dpU, dpA] at this ⊢
          omega
        · have := hA.2.2
          simp only [wtU, wtA] at this ⊢
          omega
      · exact th (by decide) (by decide) (by decide) fun us e => by cases e; decide
      · exact th (by decide) (by decide) (by decide) fun us e => by cases e; decide
      · exact hdp
    generalize hus : ([.tup (K.map tupI), .tup ((alR n).map tupI), .tup (K2.map tupI), .tup []] ++ [.lst (K.map tupI), .non, .bl true, .int 0, .str "", .str "()", .dct [] [], .lst [], .tup [.tup (K.map tupI)], .tup [.int 0, .int 0], .tup [.tup [.int 0, .int 0], .tup [.int 0, .int 0]]] ++ [dp] : List U) = us0 at h00
    have hul0 : us0.length = 16 := by rw [← hus]; rfl
    clear hdp
    have lots : ∀ t : Int, 0 ≤ t → t < 3 → ∃ u, ixU (.lst [.tup (K.map tupI), .tup ((alR n).map tupI), .tup (K2.map tupI), .tup []]) (.int t) = some u ∧ Lt 16 u := fun t t0 t1 => by
      have : t = 0 ∨ t = 1 ∨ t = 2 := by omega
      rcases this with rfl | rfl | rfl
      · exact ⟨_, rfl, LA⟩
      · exact ⟨_, rfl, LB⟩
      · exact ⟨_, rfl, LC⟩
    refine vs_seqC (fun u s => (∃ us, u = U.lst us ∧ us.length ≤ 40 ∧ ∀ x ∈ us, Th x) ∧ Bx ms 5000 s) ?_ ?_
    · walk_at "v"
      refine vs_forN (e := fun us : List U => U.lst us) (fun i us s => us.length ≤ 16 + i ∧ (∀ x ∈ us, Th x) ∧ Bx ms (1300 + 100 * i) s) (t0 := us0) rfl ⟨by omega, h00, hb.up (by omega)⟩ ?_ ?_
      · rintro i us st hi ⟨hul, hus, hb⟩
        walk_at "v"
        refine tk hb (by omega) (by decide) (by decide) fun t st t0 t1 hb => ?_
        walk_at "v"
        obtain ⟨one, e1, hone⟩ := lots t t0 t1
        refine wo_eq e1 ?_
        refine vs_seqC (fun u s => Lt 1200 u ∧ Bx ms (1300 + 100 * i + 50) s) ?_ ?_
        · walk_at "v"
          refine tk hb (by omega) (by decide) (by decide) fun t st t0 t1 hb => ?_
          walk_at "v"
          refine vs_forN (e := fun u : U => u) (fun j u s => Lt (if j = 0 then 16 else if j = 1 then 66 else if j = 2 then 266 else 1066) u ∧ Bx ms (1300 + 100 * i + 2 + 10 * j) s) (t0 := one) rfl ⟨hone, hb.up (by omega)⟩ ?_ ?_
          · rintro j u st hj ⟨hu, hb⟩
            walk_at "v"
            refine wo_eq (a := .int n) rfl ?_
            walk_at "v"
            have hj3 : j = 0 ∨ j = 1 ∨ j = 2 := by omega
            refine (bent_ok hu (by rcases hj3 with rfl | rfl | rfl <;> decide) hb (by omega) n0 (by omega)).mono ?_
            rintro u' st ⟨hu', hb⟩
            walk_at "v"
            refine ⟨u', rfl, ?_, hb.up (by omega)⟩
            rcases hj3 with rfl | rfl | rfl <;> exact hu'
          · rintro u st ⟨⟨us', rfl, h1, h2⟩, hb⟩
            walk_at "v"
            refine ⟨_, rfl, ⟨us', rfl, h1, Nat.le_trans h2 ?_⟩, hb.up (by omega)⟩
            split
            · omega
            · split
              · omega
              · split <;> omega
        rintro u st ⟨hu, hb⟩
        walk_at "v"
        refine wo_app (by omega) ?_
        walk_at "v"
        refine ⟨_, rfl, by rw [List.length_append]; simp; omega, fun x mx => ?_, hb.up (by omega)⟩
        rcases List.mem_append.mp mx with mx | mx
        · exact hus x mx
        · rw [List.mem_singleton.mp mx]; exact lt_th hu (by decide)
      · rintro us st ⟨hul, hus, hb⟩
        walk_at "v"
        exact ⟨_, rfl, ⟨us, rfl, by omega, hus⟩, hb.up (by omega)⟩
    rintro _ st ⟨⟨us, rfl, hul, hus⟩, hb⟩
    walk_at "v"
    have idm : us = us.map fun x : U => x := (List.map_id' us).symm
    rw [idm]
    refine vs_for (c := fun x : U => x) (e := fun _ : Unit => ()) (fun _ _ s => s = st) (t0 := ()) rfl rfl ?_ ?_
    · rintro pre x post _ _ ex rfl
      obtain ⟨t1, t2, y, ey⟩ := hus x (by rw [ex]; simp)
      walk_at "v"
      refine wo_eq ey ?_
      walk_at "v"
      refine (shw t1 t2).mono ?_
      rintro _ st ⟨rfl, b, rfl, hb1⟩
      walk_at "v"
      refine wo_eq (a := .bl true) rfl ?_
      walk_at "v"
      refine (lshows_any (f := f) (kind := "again") (rs := rs) t1 t2 hW hl).mono ?_
      rintro _ st ⟨rfl, b', rfl, hb2⟩
      have eb : b = b' := by rw [Bool.eq_iff_iff, hb1, hb2]
      subst eb
      walk_at "v"
      refine if_no (by simp) ?_
      walk_at "v"
      refine wo_eq ey ?_
      walk_at "v"
      refine if_no (by simp) ?_
      walk_at "v"
      exact ⟨(), rfl, rfl⟩
    · rintro _ st rfl
      walk_at "v"
      refine vs_eq (comp_id (g := fun _ => .bl true) fun x mx => ⟨rfl, eq_of_wp fun st => by
        simp only [List.mem_cons, List.not_mem_nil, or_false] at mx
        refine Wp.bind ?_
        walk_at "v"
        refine Wp.mono (Q := fun u s => s = st ∧ u = .bl true) ?_ ?_
        · rcases mx with rfl | rfl | rfl | rfl
          · exact sh_of hK hKl
          · exact sh_of (al_sh hW) hAl
          · exact sh_of hK2 hK2l
          · exact sh_of (K := []) nil_sh (by simp)
        · rintro _ _ ⟨rfl, rfl⟩
          exact .ret ⟨rfl, rfl⟩⟩) ⟨by show 4 ≤ sizeLine; omega, ?_⟩
      refine wo_eq (a := .bl true) rfl ?_
      walk_at "v"
      exact ⟨(), rfl, cell hb⟩
  · rintro _ st -
    walk_at "v"
    rfl

open HD
theorem facts {P : Program} {w : World} {K : PySem.W.Frag} {h : Heap} {mg : Str → Option Value} {f : Addr} (X : K.In h) (G : h.Ns mainGlobals mg) (hfa : mg ("law" : Str) = some (.ref f)) (c0 : SaysS fa fn ts vls xs w K) :
    ∃ fd : FuncData, (∀ (s : Shared) (v : Value), BindsTo s fd ⟨[v], []⟩ [("_law_script", v)]) ∧ ∀ base : Heap, K.In base → base.Ns mainGlobals mg → FnG P w K mg base CX0 11 f fd ["_law_script"] (spM ⟨K, He.ga K⟩ (L1 m_law)) := by
  have c : SaysU fa fn ts vls w K := c0.1.u
  obtain ⟨fd__law_box, F__law_box⟩ := c.d.def_ 0 (d := mkD "_law_box" 38) rfl
  obtain ⟨fd__law_take, F__law_take⟩ := c.d.def_ 1 (d := mkD "_law_take" 39) rfl
  obtain ⟨fd__law_rooms, F__law_rooms⟩ := c.d.def_ 2 (d := mkD "_law_rooms" 40) rfl
  obtain ⟨fd__law_again, F__law_again⟩ := c.d.def_ 3 (d := mkD "_law_again" 41) rfl
  obtain ⟨fd_are_rising, F_are_rising⟩ := c.d.def_ 4 (d := mkD "are_rising" 7) rfl
  obtain ⟨fd_is_whole, F_is_whole⟩ := c.d.def_ 5 (d := mkD "is_whole" 5) rfl
  obtain ⟨fd_is_below, F_is_below⟩ := c.d.def_ 6 (d := mkD "is_below" 6) rfl
  obtain ⟨fd_are_rising_below, F_are_rising_below⟩ := c.d.def_ 7 (d := mkD "are_rising_below" 8) rfl
  obtain ⟨fd_are_rooms, F_are_rooms⟩ := c.d.def_ 8 (d := mkD "are_rooms" 13) rfl
  obtain ⟨fd_are_pairs, F_are_pairs⟩ := c.d.def_ 9 (d := mkD "are_pairs" 12) rfl
  obtain ⟨fd_are_ranks, F_are_ranks⟩ := c.d.def_ 10 (d := mkD "are_ranks" 14) rfl
  obtain ⟨fd_are_ways, F_are_ways⟩ := c.d.def_ 11 (d := mkD "are_ways" 11) rfl
  obtain ⟨fd_fault_of, F_fault_of⟩ := c.d.def_ 12 (d := mkD "fault_of" 17) rfl
  obtain ⟨fd_Hall___init__, F_Hall___init__⟩ := c.d.def_ 13 (d := mkMt "Hall" "__init__" "Hall.__init__" 21 0) rfl
  obtain ⟨fd__law_hall_of, F__law_hall_of⟩ := c.d.def_ 14 (d := mkD "_law_hall_of" 42) rfl
  obtain ⟨fd__law_ways_from, F__law_ways_from⟩ := c.d.def_ 15 (d := mkD "_law_ways_from" 43) rfl
  obtain ⟨fd__law_ends, F__law_ends⟩ := c.d.def_ 16 (d := mkD "_law_ends" 44) rfl
  obtain ⟨fd__law_direct, F__law_direct⟩ := c.d.def_ 17 (d := mkD "_law_direct" 45) rfl
  obtain ⟨fd__law_less, F__law_less⟩ := c.d.def_ 18 (d := mkD "_law_less" 48) rfl
  obtain ⟨fd__law_deep, F__law_deep⟩ := c.d.def_ 19 (d := mkD "_law_deep" 50) rfl
  obtain ⟨fd__law_bent, F__law_bent⟩ := c.d.def_ 20 (d := mkD "_law_bent" 49) rfl
  obtain ⟨fd_pairs_of_ranks, F_pairs_of_ranks⟩ := c.d.def_ 21 (d := mkD "pairs_of_ranks" 23) rfl
  obtain ⟨fd_pairs_of, F_pairs_of⟩ := c.d.def_ 22 (d := mkD "pairs_of" 24) rfl
  obtain ⟨fd_copied_rooms, F_copied_rooms⟩ := c.d.def_ 23 (d := mkD "copied_rooms" 27) rfl
  obtain ⟨fd_copied_ways, F_copied_ways⟩ := c.d.def_ 24 (d := mkD "copied_ways" 28) rfl
  obtain ⟨fd_as_again, F_as_again⟩ := c.d.def_ 25 (d := mkD "as_again" 29) rfl
  obtain ⟨fd_seen_by, F_seen_by⟩ := c.d.def_ 26 (d := mkD "seen_by" 33) rfl
  obtain ⟨fd_Hall_ends, F_Hall_ends⟩ := c.d.def_ 27 (d := mkMt "Hall" "ends" "Hall.ends" 21 1) rfl
  obtain ⟨fd_steps_from, F_steps_from⟩ := c.d.def_ 28 (d := mkD "steps_from" 31) rfl
  obtain ⟨fd_answers, F_answers⟩ := c.d.def_ 29 (d := mkD "answers" 32) rfl
  obtain ⟨fd_is_pair, F_is_pair⟩ := c.d.def_ 30 (d := mkD "is_pair" 35) rfl
  obtain ⟨fd_shows_direct, F_shows_direct⟩ := c.d.def_ 31 (d := mkD "shows_direct" 36) rfl
  obtain ⟨fd__law_is_pair, F__law_is_pair⟩ := c.d.def_ 32 (d := mkD "_law_is_pair" 46) rfl
  obtain ⟨fd__law_shows, F__law_shows⟩ := c.d.def_ 33 (d := mkD "_law_shows" 47) rfl
  obtain ⟨fd_law, F_law⟩ := c.d.def_ 34 (d := mkD "law" 51) rfl
  have g : ∀ (i : Nat) (x : Str), fa[i]? = some (.glo x) → mg x = some (.ref (He.ga K x)) := fun i x e => He.glo_ok X G (c.d.fact i e)
  have m : ∀ (i : Nat) (x : Str), fa[i]? = some (.free x) → mg x = none := fun i x e => He.free_ok X G (c.d.fact i e)
  obtain ⟨t_MOST_LETTERS, k_MOST_LETTERS⟩ := He.int_ok X G (c.d.fact 62 (f := .int "MOST_LETTERS" 4) rfl)
  obtain ⟨t_AGAIN, k_AGAIN⟩ := He.str_ok X G (c.d.fact 63 (f := .str "AGAIN" "again") rfl)
  have g_law := g 32 "law" rfl
  cases hfa.symm.trans g_law
  let N : En w K mg := {
    m_abs := m 33 "abs" rfl,
    m_all := m 34 "all" rfl,
    m_any := m 35 "any" rfl,
    m_bool := m 36 "bool" rfl,
    m_enumerate := m 37 "enumerate" rfl,
    m_int := m 38 "int" rfl,
    m_isinstance := m 39 "isinstance" rfl,
    m_len := m 40 "len" rfl,
    m_list := m 41 "list" rfl,
    m_max := m 42 "max" rfl,
    m_min := m 43 "min" rfl,
    m_range := m 44 "range" rfl,
    m_repr := m 45 "repr" rfl,
    m_sorted := m 46 "sorted" rfl,
    m_str := m 47 "str" rfl,
    m_tuple := m 48 "tuple" rfl,
    m_zip := m 49 "zip" rfl,
    fd__law_box := fd__law_box,
    F__law_box := F__law_box,
    g__law_box := g 0 "_law_box" rfl,
    b__law_box := F__law_box.bindsN fun _ _ _ _ _ _ us hl => match us, hl with | [_, _], _ => rfl,
    fd__law_take := fd__law_take,
    F__law_take := F__law_take,
    g__law_take := g 1 "_law_take" rfl,
    b__law_take := F__law_take.bindsN fun _ _ _ _ _ _ us hl => match us, hl with | [_, _], _ => rfl,
    fd__law_rooms := fd__law_rooms,
    F__law_rooms := F__law_rooms,
    g__law_rooms := g 2 "_law_rooms" rfl,
    b__law_rooms := F__law_rooms.bindsN fun _ _ _ _ _ _ us hl => match us, hl with | [_, _], _ => rfl,
    fd__law_again := fd__law_again,
    F__law_again := F__law_again,
    g__law_again := g 3 "_law_again" rfl,
    b__law_again := F__law_again.bindsN fun _ _ _ _ _ _ us hl => match us, hl with | [_, _, _], _ => rfl,
    fd_are_rising := fd_are_rising,
    F_are_rising := F_are_rising,
    g_are_rising := g 4 "are_rising" rfl,
    b_are_rising := F_are_rising.bindsN fun _ _ _ _ _ _ us hl => match us, hl with | [_], _ => rfl,
    fd_is_whole := fd_is_whole,
    F_is_whole := F_is_whole,
    g_is_whole := g 5 "is_whole" rfl,
    b_is_whole := F_is_whole.bindsN fun _ _ _ _ _ _ us hl => match us, hl with | [_], _ => rfl,
    fd_is_below := fd_is_below,
    F_is_below := F_is_below,
    g_is_below := g 6 "is_below" rfl,
    b_is_below := F_is_below.bindsN fun _ _ _ _ _ _ us hl => match us, hl with | [_, _], _ => rfl,
    fd_are_rising_below := fd_are_rising_below,
    F_are_rising_below := F_are_rising_below,
    g_are_rising_below := g 7 "are_rising_below" rfl,
    b_are_rising_below := F_are_rising_below.bindsN fun _ _ _ _ _ _ us hl => match us, hl with | [_, _], _ => rfl,
    fd_are_rooms := fd_are_rooms,
    F_are_rooms := F_are_rooms,
    g_are_rooms := g 8 "are_rooms" rfl,
    b_are_rooms := F_are_rooms.bindsN fun _ _ _ _ _ _ us hl => match us, hl with | [_, _], _ => rfl,
    fd_are_pairs := fd_are_pairs,
    F_are_pairs := F_are_pairs,
    g_are_pairs := g 9 "are_pairs" rfl,
    b_are_pairs := F_are_pairs.bindsN fun _ _ _ _ _ _ us hl => match us, hl with | [_, _], _ => rfl,
    fd_are_ranks := fd_are_ranks,
    F_are_ranks := F_are_ranks,
    g_are_ranks := g 10 "are_ranks" rfl,
    b_are_ranks := F_are_ranks.bindsN fun _ _ _ _ _ _ us hl => match us, hl with | [_, _], _ => rfl,
    fd_are_ways := fd_are_ways,
    F_are_ways := F_are_ways,
    g_are_ways := g 11 "are_ways" rfl,
    b_are_ways := F_are_ways.bindsN fun _ _ _ _ _ _ us hl => match us, hl with | [_, _, _], _ => rfl,
    fd_fault_of := fd_fault_of,
    F_fault_of := F_fault_of,
    g_fault_of := g 12 "fault_of" rfl,
    b_fault_of := F_fault_of.bindsN fun _ _ _ _ _ _ us hl => match us, hl with | [_, _, _, _, _, _], _ => rfl,
    fd_Hall___init__ := fd_Hall___init__,
    F_Hall___init__ := F_Hall___init__,
    b_Hall___init__ := F_Hall___init__.bindsN fun _ _ _ _ _ _ us hl => match us, hl with | [_, _, _, _, _, _, _], _ => rfl,
    fd__law_hall_of := fd__law_hall_of,
    F__law_hall_of := F__law_hall_of,
    g__law_hall_of := g 13 "_law_hall_of" rfl,
    b__law_hall_of := F__law_hall_of.bindsN fun _ _ _ _ _ _ us hl => match us, hl with | [_], _ => rfl,
    fd__law_ways_from := fd__law_ways_from,
    F__law_ways_from := F__law_ways_from,
    g__law_ways_from := g 14 "_law_ways_from" rfl,
    b__law_ways_from := F__law_ways_from.bindsN fun _ _ _ _ _ _ us hl => match us, hl with | [_, _], _ => rfl,
    fd__law_ends := fd__law_ends,
    F__law_ends := F__law_ends,
    g__law_ends := g 15 "_law_ends" rfl,
    b__law_ends := F__law_ends.bindsN fun _ _ _ _ _ _ us hl => match us, hl with | [_, _, _], _ => rfl,
    fd__law_direct := fd__law_direct,
    F__law_direct := F__law_direct,
    g__law_direct := g 16 "_law_direct" rfl,
    b__law_direct := F__law_direct.bindsN fun _ _ _ _ _ _ us hl => match us, hl with | [_], _ => rfl,
    fd__law_less := fd__law_less,
    F__law_less := F__law_less,
    g__law_less := g 17 "_law_less" rfl,
    b__law_less := F__law_less.bindsN fun _ _ _ _ _ _ us hl => match us, hl with | [_, _], _ => rfl,
    fd__law_deep := fd__law_deep,
    F__law_deep := F__law_deep,
    g__law_deep := g 18 "_law_deep" rfl,
    b__law_deep := F__law_deep.bindsN fun _ _ _ _ _ _ us hl => match us, hl with | [_, _], _ => rfl,
    fd__law_bent := fd__law_bent,
    F__law_bent := F__law_bent,
    g__law_bent := g 19 "_law_bent" rfl,
    b__law_bent := F__law_bent.bindsN fun _ _ _ _ _ _ us hl => match us, hl with | [_, _, _], _ => rfl,
    fd_pairs_of_ranks := fd_pairs_of_ranks,
    F_pairs_of_ranks := F_pairs_of_ranks,
    g_pairs_of_ranks := g 20 "pairs_of_ranks" rfl,
    b_pairs_of_ranks := F_pairs_of_ranks.bindsN fun _ _ _ _ _ _ us hl => match us, hl with | [_], _ => rfl,
    fd_pairs_of := fd_pairs_of,
    F_pairs_of := F_pairs_of,
    g_pairs_of := g 21 "pairs_of" rfl,
    b_pairs_of := F_pairs_of.bindsN fun _ _ _ _ _ _ us hl => match us, hl with | [_], _ => rfl,
    fd_copied_rooms := fd_copied_rooms,
    F_copied_rooms := F_copied_rooms,
    g_copied_rooms := g 22 "copied_rooms" rfl,
    b_copied_rooms := F_copied_rooms.bindsN fun _ _ _ _ _ _ us hl => match us, hl with | [_, _], _ => rfl,
    fd_copied_ways := fd_copied_ways,
    F_copied_ways := F_copied_ways,
    g_copied_ways := g 23 "copied_ways" rfl,
    b_copied_ways := F_copied_ways.bindsN fun _ _ _ _ _ _ us hl => match us, hl with | [_, _, _], _ => rfl,
    fd_as_again := fd_as_again,
    F_as_again := F_as_again,
    g_as_again := g 24 "as_again" rfl,
    b_as_again := F_as_again.bindsN fun _ _ _ _ _ _ us hl => match us, hl with | [_], _ => rfl,
    fd_seen_by := fd_seen_by,
    F_seen_by := F_seen_by,
    g_seen_by := g 25 "seen_by" rfl,
    b_seen_by := F_seen_by.bindsN fun _ _ _ _ _ _ us hl => match us, hl with | [_, _], _ => rfl,
    fd_Hall_ends := fd_Hall_ends,
    F_Hall_ends := F_Hall_ends,
    me_Hall_ends := He.meth_ok (c.d.fact 53 (f := .meth "Hall" "ends") rfl),
    b_Hall_ends := F_Hall_ends.bindsN fun _ _ _ _ _ _ us hl => match us, hl with | [_, _, _], _ => rfl,
    fd_steps_from := fd_steps_from,
    F_steps_from := F_steps_from,
    g_steps_from := g 26 "steps_from" rfl,
    b_steps_from := F_steps_from.bindsN fun _ _ _ _ _ _ us hl => match us, hl with | [_, _], _ => rfl,
    fd_answers := fd_answers,
    F_answers := F_answers,
    g_answers := g 27 "answers" rfl,
    b_answers := F_answers.bindsN fun _ _ _ _ _ _ us hl => match us, hl with | [_, _, _], _ => rfl,
    fd_is_pair := fd_is_pair,
    F_is_pair := F_is_pair,
    g_is_pair := g 28 "is_pair" rfl,
    b_is_pair := F_is_pair.bindsN fun _ _ _ _ _ _ us hl => match us, hl with | [_, _], _ => rfl,
    fd_shows_direct := fd_shows_direct,
    F_shows_direct := F_shows_direct,
    g_shows_direct := g 29 "shows_direct" rfl,
    b_shows_direct := F_shows_direct.bindsN fun _ _ _ _ _ _ us hl => match us, hl with | [_, _], _ => rfl,
    fd__law_is_pair := fd__law_is_pair,
    F__law_is_pair := F__law_is_pair,
    g__law_is_pair := g 30 "_law_is_pair" rfl,
    b__law_is_pair := F__law_is_pair.bindsN fun _ _ _ _ _ _ us hl => match us, hl with | [_, _], _ => rfl,
    fd__law_shows := fd__law_shows,
    F__law_shows := F__law_shows,
    g__law_shows := g 31 "_law_shows" rfl,
    b__law_shows := F__law_shows.bindsN fun _ _ _ _ _ _ us hl => match us, hl with | [_, _], _ => rfl,
    fd_law := fd_law,
    F_law := F_law,
    g_law := g 32 "law" rfl,
    b_law := F_law.bindsN fun _ _ _ _ _ _ us hl => match us, hl with | [_], _ => rfl,
    cl_Hall := He.cls_ok (c.d.fact 51 (f := .cls "Hall") rfl),
    mk_Hall := He.mkr_ok (c.d.fact 52 (f := .mkr "Hall") rfl),
    g_Hall := g 50 "Hall" rfl,
    sysd := c0.2,
    hf_letters := (allC ⟨He.cls_ok (c.d.fact 51 (f := .cls "Hall") rfl), He.noat_ok (c.d.fact 54 (f := .noat "Hall" "letters") rfl)⟩ allN),
    hf_rooms := (allC ⟨He.cls_ok (c.d.fact 51 (f := .cls "Hall") rfl), He.noat_ok (c.d.fact 55 (f := .noat "Hall" "rooms") rfl)⟩ allN),
    hf_start := (allC ⟨He.cls_ok (c.d.fact 51 (f := .cls "Hall") rfl), He.noat_ok (c.d.fact 56 (f := .noat "Hall" "start") rfl)⟩ allN),
    hf_ways := (allC ⟨He.cls_ok (c.d.fact 51 (f := .cls "Hall") rfl), He.noat_ok (c.d.fact 57 (f := .noat "Hall" "ways") rfl)⟩ allN),
    hf_kind := (allC ⟨He.cls_ok (c.d.fact 51 (f := .cls "Hall") rfl), He.noat_ok (c.d.fact 58 (f := .noat "Hall" "kind") rfl)⟩ allN),
    hf_by := (allC ⟨He.cls_ok (c.d.fact 51 (f := .cls "Hall") rfl), He.noat_ok (c.d.fact 59 (f := .noat "Hall" "by") rfl)⟩ allN),
    hf_goals := (allC ⟨He.cls_ok (c.d.fact 51 (f := .cls "Hall") rfl), He.noat_ok (c.d.fact 60 (f := .noat "Hall" "goals") rfl)⟩ allN),
    g_KINDS := g 61 "KINDS" rfl,
    T_KINDS := tabF (c.keys 0 rfl) (c.val 0 rfl) (allC rfl (allC rfl (allC rfl (allC rfl allN)))),
    t_MOST_LETTERS := t_MOST_LETTERS,
    k_MOST_LETTERS := k_MOST_LETTERS,
    t_AGAIN := t_AGAIN,
    k_AGAIN := k_AGAIN }
  have b_law := FunD.bindsA (ps := ["_law_script"]) F_law fun _ _ _ _ _ _ us hl => match us, hl with | [_], _ => rfl
  exact ⟨fd_law, fun s v => b_law s [v] rfl, fun base _ _ => w_law N⟩
end EK
open PySem PySem.W PySem.Calls PyProof.Rows
set_option maxHeartbeats 0 in
theorem PySem.Challenge.cw_endlesshall_k77_pairs_that_follow_looked_holds : PySem.Challenge.rw_endlesshall_k77_pairs_that_follow_looked.Holds := by
  w_on; o_law
  refine HandSHeadRun.head_any (r := EK.HD.Rw) (q := view EK.HD.Rw.prog [51]) (H := EK.HD.hk) (ob := EK.HD.ob) (M := 6000) (loose := EK.HD.names) (d := HandSHeadRun.topDef EK.HD.Rw.prog 51) (kwd := []) EK.HD.ob_eq
    (by kernel_rfl) (fun s => by kernel_rfl) EK.HD.run (by kernel_rfl) (by kernel_rfl) (by kernel_rfl) (by rfl) (by first | assumption | decide +kernel) (by decide +kernel) ⟨rfl, rfl, rfl, rfl, rfl, by decide +kernel⟩ ?hw ?hc
  case hw => w_witness2
  case hc =>
    refine EL.walkG (l := PySem.Challenge.rw_endlesshall_k77_pairs_that_follow_looked) (n := 63) (k := 11) (x := "_law_script") rfl (by decide) (by kernel_rfl) ⟨rfl, by decide, by decide⟩ ?F
    intro w mg fa h Y G hmg0
    obtain ⟨K, KX, c⟩ := Y
    have hmg : mg ("law" : PySem.Str) = some (.ref fa) := by
      have e : (HandSHeadRun.topDef EK.HD.Rw.prog 51).name = ("law" : PySem.Str) := by kernel_rfl
      rw [← e]
      exact hmg0
    obtain ⟨fd, hb, hF⟩ := EK.facts (P := (PySem.Challenge.rw_endlesshall_k77_pairs_that_follow_looked).prog) (w := w) KX G hmg c
    exact ⟨K, fd, _, KX, hb, fun H a ns hl _ hS => UX.sp_law EK.law_ok hl hS, hF⟩


