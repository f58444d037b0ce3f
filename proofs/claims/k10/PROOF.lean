import PyProof.Rows.All
import Wide.All
import OpenK.AllK
import Wide.FinOn
import KE.KStateDown
import Lean
import HandS.ForMost
import HandS.More
import HandS.WordsExc
import HandS.Defaults
import HandS.IsInst
import HandS.TupAny
import HandS.TupMul
import HandS.Head0
import HandS.Head1
import HandS.Head2
import HandS.HeadEnd
import HandS.HeadHook1
import HandS.HeadHook2
import PyProof.ListMulRoad
import KE.KUnpackStar
import PyProof.FactsAll.tuple_2
import HandS.Style
import HandS.Walk
import HandS.Codes
import KE.LtData
import HandS.Zip
import HandS.Deep
import HandS.TupSets
import HandS.SetKeys
import HandS.BoundDict
import HandS.CallLocal
import HandS.HeadHook3
import PyProof.WalksMore
import HandS.HeadHook4
import PySem.Challenge.RW_endlesshall_k10_ends_and_certain_ones
set_option Elab.async false
set_option linter.all false
set_option maxRecDepth 100000
set_option maxHeartbeats 4000000
set_option autoImplicit false
namespace EL
open PySem PySem.Spec PyProof.Rows L2
/-! ### t * 0, t * 1 -/
theorem mul_same (l : Addr) (its : Array Value) (n : Nat) (dd : Option Addr) (sl : Array (Option Value)) (x : Int) (u : Tok) (c0 : (decide (x < -(2 ^ 63)) || decide (x ≥ 2 ^ 63)) = false) (c1 : (its.isEmpty || x == 1) = true) :
    Meets (Builtin.«tuple.__mul__» ⟨[.ref l, .int x u], []⟩) (fun _ R s => s.heap.get? l = some { cls := .type "tuple", dict := dd, data := .seq its n, slots := sl } ∧ R (.ok (.ret (Value.ref l))) s) :=
  .of_wp fun prog w A R s h => by
    obtain ⟨hp, g, d, tk, os⟩ := s
    obtain ⟨hl, h⟩ := h
    have f1 := AutoSeq1.idx_int
    wp_walk using wpAny_loadPart' hl
    repeat (first
      | (refine wpAny_ite_false (decide_eq_false (by rw [c0]; exact Bool.false_ne_true)) ?_; wp_walk using wpAny_loadPart' hl)
      | (refine wpAny_ite_true (decide_eq_true c1) ?_; wp_walk using wpAny_loadPart' hl))
    exact ⟨_, rfl, h⟩
theorem mul_none (l : Addr) (its : Array Value) (n : Nat) (dd : Option Addr) (sl : Array (Option Value)) (x : Int) (u : Tok) (c0 : (decide (x < -(2 ^ 63)) || decide (x ≥ 2 ^ 63)) = false) (c1 : (its.isEmpty || x == 1) = false) (c2 : (decide (x ≤ 0) || its.isEmpty) = true) :
    Meets (Builtin.«tuple.__mul__» ⟨[.ref l, .int x u], []⟩) (fun _ R s => s.heap.get? l = some { cls := .type "tuple", dict := dd, data := .seq its n, slots := sl } ∧
      R (.ok (.ret (Value.ref s.heap.objs.size))) { s with heap := s.heap.push { cls := Value.type "tuple", data := Data.seq #[] }, toks := s.toks }) :=
  .of_wp fun prog w A R s h => by
    obtain ⟨hp, g, d, tk, os⟩ := s
    obtain ⟨hl, h⟩ := h
    have f1 := AutoSeq1.idx_int
    wp_walk using wpAny_loadPart' hl
    repeat (first
      | (refine wpAny_ite_false (decide_eq_false (by rw [c0]; exact Bool.false_ne_true)) ?_; wp_walk using wpAny_loadPart' hl)
      | (refine wpAny_ite_false (decide_eq_false (by rw [c1]; exact Bool.false_ne_true)) ?_; wp_walk using wpAny_loadPart' hl)
      | (refine wpAny_ite_true (decide_eq_true c2) ?_; wp_walk using wpAny_loadPart' hl))
    exact ⟨_, rfl, h⟩
def rRepA (K : PySem.W.Frag) : R2 := fun x y H Q => ∃ l k xs, x = .ref l ∧ y = .int k ∧ SqT K H l xs ∧ 0 ≤ k ∧ k ≤ 1000 ∧ xs.length ≤ 1000 ∧ ((xs = [] ∨ k = 1) → Q (.ref l) H) ∧
  (xs ≠ [] → k ≠ 1 → ∀ p, H p = none → Q (.ref p) (upd H p (.tup (List.replicate k.toNat xs).flatten)))
section
variable {X : Cx}
theorem op_repA : OpR X (binaryOp .Mult) (rRepA X.K) := by
  intro pins s σ H x y v u Q I rx ry h
  obtain ⟨l, k, xs, rfl, rfl, hT, k0, k1, hz, q1, q2⟩ := h
  by_cases hs : xs = [] ∨ k = 1
  · cases rx
    obtain ⟨t, rfl⟩ := ry
    obtain ⟨its, r, ⟨⟨cls, dd, data, sl⟩, ho, hc, n, hd⟩, hsz⟩ := I.tuple hT
    simp only at hc hd
    subst hc hd
    have c0 : (decide (k < -(2 ^ 63)) || decide (k ≥ 2 ^ 63)) = false := by
      rw [decide_eq_false (by omega), decide_eq_false (by omega)]; rfl
    have c1 : (its.toArray.isEmpty || k == 1) = true := by
      rcases hs with e | e
      · subst e
        have : its = [] := List.eq_nil_of_length_eq_zero r.length.symm
        subst this
        rfl
      · subst e
        exact Bool.or_true _
    exact wpAny_binaryOp_repeat_ref (T := "tuple") (U := "int") (by decide) ⟨_, ho, rfl⟩ (fun s' => typeIs_int s' k t) noFill_tuple_mul F.fills_int_mul F.slot_int_rmul repeat_tuple F.slot_int_index.lookup
      (call_meets F.slot_int_rmul (typeIs_int s k t) F.entry_int_rmul (F.args_int_rmul_2 _ _) (int_rmul_tuple k t l its.toArray n dd sl)
        ⟨ho, rfl, ⟨_, ho, rfl⟩, call_meets F.slot_tuple_mul ⟨_, ho, rfl⟩ F.entry_tuple_mul (F.args_tuple_mul_2 _ _) (mul_same l its.toArray n dd sl k t c0 c1) ⟨ho, ⟨.ref l, H, I, rfl, q1 hs⟩⟩⟩)
  · have hx : xs ≠ [] := fun e => hs (.inl e)
    have hk1 : k ≠ 1 := fun e => hs (.inr e)
    by_cases h2 : 2 ≤ k
    · exact op_repT pins s σ H _ _ v u Q I rx ry ⟨l, k, xs, rfl, rfl, hT, hx, h2, k1, hz, q2 hx hk1⟩
    · have e0 : k = 0 := by omega
      subst e0
      cases rx
      obtain ⟨t, rfl⟩ := ry
      obtain ⟨its, r, ⟨⟨cls, dd, data, sl⟩, ho, hc, n, hd⟩, hsz⟩ := I.tuple hT
      simp only at hc hd
      subst hc hd
      have hi : its.toArray.isEmpty = false := by
        cases its with
        | nil => exact absurd (List.eq_nil_of_length_eq_zero r.length) hx
        | cons a b => rfl
      refine wpAny_binaryOp_repeat_ref (T := "tuple") (U := "int") (by decide) ⟨_, ho, rfl⟩ (fun s' => typeIs_int s' 0 t) noFill_tuple_mul F.fills_int_mul F.slot_int_rmul repeat_tuple F.slot_int_index.lookup
        (call_meets F.slot_int_rmul (typeIs_int s 0 t) F.entry_int_rmul (F.args_int_rmul_2 _ _) (int_rmul_tuple 0 t l its.toArray n dd sl)
          ⟨ho, rfl, ⟨_, ho, rfl⟩, call_meets F.slot_tuple_mul ⟨_, ho, rfl⟩ F.entry_tuple_mul (F.args_tuple_mul_2 _ _) (mul_none l its.toArray n dd sl 0 t (by decide) (by rw [hi]; rfl) (by rw [hi]; rfl)) ⟨ho, ?_⟩⟩)
      refine ⟨.ref s.heap.objs.size, _, I.laid (t' := s.toks) (o := .tup []) (fun b ob z => Heap.get?_push_of_some _ z) (Nat.le_refl _) ?_, rfl, q2 hx hk1 _ (I.hok.fresh (Nat.le_refl _))⟩
      exact ⟨Nat.zero_le _, [], .nil, IsTup.new _ _⟩
end
/-! ### *first, last = a tuple -/
theorem star_last {prog : Program} {w : World} {A : Around} {E : Value → Shared → Prop} {s : Shared} {t : Addr} {its : Array Value} {Q : List Value → Shared → Prop} (hT : IsTup s.heap t its) (hh : A.handled = none) (h1 : 1 ≤ its.size) (h2 : its.size ≤ 16384)
    (k : ∀ (h' : Heap) (tk : Nat), (∀ b o, s.heap.get? b = some o → h'.get? b = some o) →
      Q ([.ref h'.objs.size] ++ its.toList.drop (its.size - 1)) { s with heap := h'.push { cls := .type "list", data := .seq (its.toList.take (its.size - 1)).toArray }, toks := tk }) :
    wpAny (model prog w) A (unpackItems (.ref t) 2 (some 0)) Q E s := by
  have tl : t < s.heap.objs.size := hT.lt
  unfold unpackItems
  refine wpAny_bind ?_
  unfold notIterableAtAll
  refine wpAny_bind (wpAny_specialOf hT.typeIs slot_tuple_iter.lookup (wpAny_pure ?_))
  simp only [Bool.false_eq_true, if_false]
  refine wpAny_bind (wpAny_holding (iter_tuple hT ?_))
  refine wpAny_bind (wpAny_holding (draw_tuple (Nat.ne_of_lt tl) 0 0 _ _ ⟨_, Heap.get?_push_size _ rfl, rfl, rfl⟩ (hT.push _) (Nat.zero_le _) fun g1 it1 sb1 => ?_))
  have hT1 : IsTup g1 t its := (hT.push _).extBut sb1.extBut (Nat.ne_of_lt tl)
  obtain ⟨oi, hoi, _⟩ := id it1
  obtain ⟨ol, hol, _⟩ := id hT1
  rw [if_neg (show ¬ ((List.take 0 (List.drop 0 its.toList)).length < 0) from Nat.not_lt_zero _)]
  refine wpAny_bind (wpAny_holding (PySem.W.kun_collect (s := { s with heap := g1 }) (T := "tuple_iterator") (.inr (.inr (.inr rfl))) (Walks.tuple (A := A.in1) hh s.heap.objs.size t (Nat.ne_of_lt tl) its) (fun j u st => st.1.typeIs) (k := 0) (Nat.zero_le _) ⟨it1, hT1⟩ (Heap.lt_size hoi) (Heap.lt_size hol) (fun g2 tk kp => ?_) (by rw [sizeLine_eq]; omega)))
  rw [List.drop_zero]
  have ln : its.toList.length = its.size := Array.length_toList
  show wpAny _ _ (if its.toList.length < 2 - 1 - 0 then _ else _) _ _ _
  rw [if_neg (by rw [ln]; omega)]
  have old : ∀ b o, s.heap.get? b = some o → g2.get? b = some o := fun b o e => kp b o (Nat.ne_of_lt (Heap.lt_size e)) (sb1.extBut b o (Nat.ne_of_lt (Heap.lt_size e)) (Heap.get?_push_of_some _ e))
  refine wpAny_bind (wpAny_newList (s := { s with heap := g2, toks := tk }) (wpAny_pure ?_) (by rw [List.length_take, ln, sizeLine_eq]; omega))
  have := k g2 tk old
  rw [ln]
  exact this
def gStarLast (K : PySem.W.Frag) (i j : Nat) : TG := fun v σ H Q => ∃ a xs y, v = .ref a ∧ SqT K H a (xs ++ [y]) ∧ xs.length ≤ 16000 ∧ ∀ p, H p = none → Q ((σ.set i (some (.ref p))).set j (some y)) (upd H p (.lst xs))
section
variable {X : Cx}
theorem pg_starlast {i j : Nat} {x y : Str} {px py ps pos : Pos} {kt} (hc : X.calm = true) (hN : X.N.Nodup) (hi : X.N[i]? = some x) (hj : X.N[j]? = some y) (hx : X.env.scope.names.lookup x = some .local) (hy : X.env.scope.names.lookup y = some .local) :
    PG X (.Tuple [.Starred (.Name x px) ps, .Name y py] kt pos) (gStarLast X.K i j) := by
  refine ⟨fun pins s σ H v u Q I r hw => ?_⟩
  obtain ⟨a, xs, z, rfl, hq, hz, hw⟩ := hw
  cases r
  obtain ⟨its, rv, ht, hsz⟩ := I.tuple hq
  have ln : its.length = xs.length + 1 := by rw [← rv.length, List.length_append]; rfl
  have sz : its.toArray.size = xs.length + 1 := by rw [List.size_toArray, ln]
  rw [assign_Tuple]
  refine wpAny_bind (wpAny_standAt ?_)
  show wpAny (model X.prog X.w) X.A (holding [.ref a] (unpackItems (.ref a) 2 (some 0)) >>= fun l => assignInOrder [assign (.Name x px) X.env, assign (.Name y py) X.env] l) _ _ _
  refine wpAny_bind (wpAny_holding (star_last ht (I.ok.hd hc) (by omega) (by omega) fun g tk old => ?_))
  have e1 : its.toArray.size - 1 = xs.length := by omega
  rw [e1]
  have rt := rv.take xs.length
  have rd := rv.drop xs.length
  rw [List.take_left] at rt
  rw [List.drop_left] at rd
  have tl : its.toArray.toList = its := rfl
  rw [tl]
  obtain ⟨u1, eu, ru⟩ := vals1 rd
  rw [eu]
  have I1 : Inv X pins σ H { s with heap := g, toks := tk } := I.kept (t' := tk) old
  have I2 : Inv X pins σ (upd H g.objs.size (.lst xs)) { s with heap := g.push { cls := .type "list", data := .seq (its.take xs.length).toArray }, toks := tk } :=
    I1.laid (t' := tk) (o := .lst xs) (fun b o e => Heap.get?_push_of_some _ e) (Nat.le_refl _) ⟨Nat.le_trans hz (by decide), _, _, rt, Heap.get?_push_size _ rfl⟩
  show wpAny (model X.prog X.w) X.A (assignInOrder [assign (.Name x px) X.env, assign (.Name y py) X.env] [.ref g.objs.size, u1]) _ _ _
  refine assignInOrder_cons (wpAny_assign_Name (store_ok (v := V.ref g.objs.size) I2 hN hi (.inl hx) rfl (fun s3 I3 => ?_) (.inr hx)))
  refine assignInOrder_cons (wpAny_assign_Name (store_ok I3 hN hj (.inl hy) ru (fun s4 I4 => assignInOrder_nil ⟨_, _, I4, ?_⟩) (.inr hy)))
  exact hw _ (I1.hok.fresh (Nat.le_refl _))
end
end EL

set_option Elab.async false
set_option linter.all false
set_option maxRecDepth 100000
set_option maxHeartbeats 4000000
set_option autoImplicit false
namespace EL
open PySem PySem.Spec PyProof.Rows L2

/-! ### heaps: what is kept -/
def Ex (H H' : Hp) : Prop := ∀ a o, H a = some o → H' a = some o
theorem Ex.refl (H : Hp) : Ex H H := fun _ _ h => h
theorem Ex.trans {H H1 H2 : Hp} (a : Ex H H1) (b : Ex H1 H2) : Ex H H2 := fun x o h => b x o (a x o h)
theorem Ex.new {H : Hp} {p : Addr} {o : HO} (h : H p = none) : Ex H (upd H p o) := fun a u e => by
  rw [upd_ne (ne_of_none e h)]; exact e
theorem Ex.mut {H H' : Hp} {p : Addr} {o : HO} (e : Ex H H') (h : H p = none) : Ex H (upd H' p o) := fun a u ha => by
  rw [upd_ne (ne_of_none ha h)]; exact e a u ha
theorem Ex.free {H H' : Hp} (e : Ex H H') {p : Addr} (h : H' p = none) : H p = none := by
  cases q : H p with
  | none => rfl
  | some o => rw [e p o q] at h; cases h

abbrev Bn := Addr → Prop
structure RB (B : Bn) (H H' : Hp) : Prop where
  keep : ∀ a o, ¬ B a → H a = some o → H' a = some o
  tup : ∀ a xs, H a = some (.tup xs) → H' a = some (.tup xs)
  frz : ∀ a o u, H a = some (.frz o u) → H' a = some (.frz o u)
  ban : ∀ a, B a → H a ≠ none → H' a ≠ none
def BOk (B : Bn) (H : Hp) : Prop := ∀ a, B a → H a ≠ none
theorem RB.refl {B : Bn} (H : Hp) : RB B H H := ⟨fun _ _ _ h => h, fun _ _ h => h, fun _ _ _ h => h, fun _ _ h => h⟩
theorem RB.trans {B : Bn} {H H1 H2 : Hp} (a : RB B H H1) (b : RB B H1 H2) : RB B H H2 :=
  ⟨fun x o n h => b.keep x o n (a.keep x o n h), fun x o h => b.tup x o (a.tup x o h), fun x o u h => b.frz x o u (a.frz x o u h), fun x n h => b.ban x n (a.ban x n h)⟩
theorem RB.of_ex {B : Bn} {H H' : Hp} (e : Ex H H') : RB B H H' := ⟨fun a o _ h => e a o h, fun a o h => e a _ h, fun a o u h => e a _ h, fun a _ h => by
  cases q : H a with
  | none => exact absurd q h
  | some o => rw [e a o q]; exact fun z => nomatch z⟩
theorem RB.sub {B B' : Bn} {H H' : Hp} (s : ∀ a, B a → B' a) (r : RB B H H') : RB B' H H' := ⟨fun a o n h => r.keep a o (fun z => n (s a z)) h, r.tup, r.frz, fun a _ h => by
  rcases Classical.em (B a) with q | q
  · exact r.ban a q h
  · cases e : H a with
    | none => exact absurd e h
    | some o => rw [r.keep a o q e]; exact fun z => nomatch z⟩
theorem BOk.mono {B : Bn} {H H' : Hp} (o : BOk B H) (r : RB B H H') : BOk B H' := fun a b => r.ban a b (o a b)
theorem BOk.none {H : Hp} : BOk (fun _ => False) H := fun _ z => z.elim
theorem RB.sqT {B : Bn} {K : PySem.W.Frag} {H H' : Hp} {a : Addr} {xs : List V} (r : RB B H H') (h : SqT K H a xs) : SqT K H' a xs := by
  rcases h with (h | ⟨o, h⟩) | h
  · exact .inl (.inl (r.tup _ _ h))
  · exact .inl (.inr ⟨o, r.frz _ _ _ h⟩)
  · exact .inr h
theorem RB.sqL {B : Bn} {K : PySem.W.Frag} {H H' : Hp} {a : Addr} {xs : List V} (r : RB B H H') (n : ¬ B a) (h : SqL K H a xs) : SqL K H' a xs := by
  rcases h with (h | ⟨o, h⟩) | h
  · exact .inl (.inl (r.keep _ _ n h))
  · exact .inl (.inr ⟨o, r.frz _ _ _ h⟩)
  · exact .inr h
theorem Ex.sqT {K : PySem.W.Frag} {H H' : Hp} {a : Addr} {xs : List V} (r : Ex H H') (h : SqT K H a xs) : SqT K H' a xs := (RB.of_ex (B := fun _ => False) r).sqT h
theorem Ex.sqL {K : PySem.W.Frag} {H H' : Hp} {a : Addr} {xs : List V} (r : Ex H H') (h : SqL K H a xs) : SqL K H' a xs := (RB.of_ex (B := fun _ => False) r).sqL (fun z => z) h
theorem sqT_of {K : PySem.W.Frag} {H : Hp} {a : Addr} {xs : List V} (h : H a = some (.tup xs)) : SqT K H a xs := .inl (.inl h)
theorem sqL_of {K : PySem.W.Frag} {H : Hp} {a : Addr} {xs : List V} (h : H a = some (.lst xs)) : SqL K H a xs := .inl (.inl h)

/-- how a piece of code may change the heap -/
class Rok (B : Bn) (R : Hp → Hp → Prop) : Prop where
  rf : ∀ H, R H H
  tr : ∀ {H H1 H2}, R H H1 → R H1 H2 → R H H2
  ex : ∀ {H H'}, Ex H H' → R H H'
  rb : ∀ {H H'}, R H H' → RB B H H'
instance {B : Bn} : Rok B Ex := ⟨Ex.refl, Ex.trans, id, RB.of_ex⟩
instance {B : Bn} : Rok B (RB B) := ⟨RB.refl, RB.trans, RB.of_ex, id⟩

/-! ### what a value is -/
abbrev PV := V → Hp → Prop
class Stb (B : Bn) (p : PV) : Prop where
  st : ∀ {H H' v}, RB B H H' → p v H → p v H'
def isP (v : V) : PV := fun x _ => x = v
instance {B : Bn} {v : V} : Stb B (isP v) := ⟨fun _ h => h⟩
def exP {α : Type} (C : α → Prop) (q : α → PV) : PV := fun v H => ∃ a, C a ∧ q a v H
instance {B : Bn} {α : Type} {C : α → Prop} {q : α → PV} [∀ a, Stb B (q a)] : Stb B (exP C q) := ⟨fun r ⟨a, c, h⟩ => ⟨a, c, Stb.st r h⟩⟩

section
variable (K : PySem.W.Frag) (B : Bn)
mutual
/-- v is the data d, whose lists are none of B -/
def im : PyData → PV
  | .none => isP .non
  | .bool b => isP (.bl b)
  | .int i => isP (.int i)
  | .str x => isP (.str x)
  | .tuple ds => fun v H => ∃ a vs, v = .ref a ∧ SqT K H a vs ∧ imAll ds vs H
  | .list ds => fun v H => ∃ a vs, v = .ref a ∧ ¬ B a ∧ SqL K H a vs ∧ imAll ds vs H
  | .dict _ => fun _ _ => False
def imAll : List PyData → List V → Hp → Prop
  | [], vs, _ => vs = []
  | d :: ds, vs, H => ∃ v r, vs = v :: r ∧ im d v H ∧ imAll ds r H
end
end
section
variable {K : PySem.W.Frag} {B : Bn} {H H' : Hp} {v : V} {d : PyData}
mutual
theorem im_st (r : RB B H H') : ∀ (d : PyData) (v : V), im K B d v H → im K B d v H'
  | .none, _, h => h
  | .bool _, _, h => h
  | .int _, _, h => h
  | .str _, _, h => h
  | .tuple ds, _, ⟨a, vs, e, s, q⟩ => ⟨a, vs, e, r.sqT s, imAll_st r ds vs q⟩
  | .list ds, _, ⟨a, vs, e, n, s, q⟩ => ⟨a, vs, e, n, r.sqL n s, imAll_st r ds vs q⟩
  | .dict _, _, h => h.elim
theorem imAll_st (r : RB B H H') : ∀ (ds : List PyData) (vs : List V), imAll K B ds vs H → imAll K B ds vs H'
  | [], _, h => h
  | d :: ds, _, ⟨v, w, e, h1, h2⟩ => ⟨v, w, e, im_st r d v h1, imAll_st r ds w h2⟩
end
instance : Stb B (im K B d) := ⟨fun r h => im_st r _ _ h⟩
theorem imAll_len : ∀ {ds : List PyData} {vs : List V}, imAll K B ds vs H → vs.length = ds.length
  | [], _, h => by rw [show _ = _ from h]; rfl
  | d :: ds, _, ⟨v, w, e, _, h2⟩ => by rw [e, List.length_cons, List.length_cons, imAll_len h2]
theorem imAll_get : ∀ {ds : List PyData} {vs : List V} {i : Nat} {d : PyData}, imAll K B ds vs H → ds[i]? = some d → ∃ v, vs[i]? = some v ∧ im K B d v H
  | [], _, _, _, _, e => by simp at e
  | d :: ds, _, 0, d', ⟨v, w, e, h1, h2⟩, e' => by
    simp at e'; subst e' e; exact ⟨v, rfl, h1⟩
  | d :: ds, _, i + 1, d', ⟨v, w, e, h1, h2⟩, e' => by
    subst e
    obtain ⟨x, e1, e2⟩ := imAll_get (i := i) h2 (by simpa using e')
    exact ⟨x, by simpa using e1, e2⟩
theorem imAll_getV : ∀ {ds : List PyData} {vs : List V} {i : Nat} {v : V}, imAll K B ds vs H → vs[i]? = some v → ∃ d, ds[i]? = some d ∧ im K B d v H
  | [], _, _, _, h, e => by rw [show _ = _ from h] at e; simp at e
  | d :: ds, _, 0, v', ⟨v, w, e, h1, h2⟩, e' => by
    subst e; simp at e'; subst e'; exact ⟨d, rfl, h1⟩
  | d :: ds, _, i + 1, v', ⟨v, w, e, h1, h2⟩, e' => by
    subst e
    obtain ⟨x, e1, e2⟩ := imAll_getV (i := i) h2 (by simpa using e')
    exact ⟨x, by simpa using e1, e2⟩
theorem imAll_append : ∀ {ds es : List PyData} {vs ws : List V}, imAll K B ds vs H → imAll K B es ws H → imAll K B (ds ++ es) (vs ++ ws) H
  | [], _, _, _, h, h' => by rw [show _ = _ from h]; exact h'
  | d :: ds, es, _, ws, ⟨v, w, e, h1, h2⟩, h' => by
    subst e; exact ⟨v, w ++ ws, rfl, h1, imAll_append h2 h'⟩
theorem imAll_snoc {ds : List PyData} {vs : List V} {d : PyData} {v : V} (h : imAll K B ds vs H) (h' : im K B d v H) : imAll K B (ds ++ [d]) (vs ++ [v]) H := imAll_append h ⟨v, [], rfl, h', rfl⟩
theorem imAll_take : ∀ {ds : List PyData} {vs : List V} (n : Nat), imAll K B ds vs H → imAll K B (ds.take n) (vs.take n) H
  | _, _, 0, _ => rfl
  | [], _, n + 1, h => by rw [show _ = _ from h]; rfl
  | d :: ds, _, n + 1, ⟨v, w, e, h1, h2⟩ => by subst e; exact ⟨v, _, rfl, h1, imAll_take n h2⟩
theorem imAll_drop : ∀ {ds : List PyData} {vs : List V} (n : Nat), imAll K B ds vs H → imAll K B (ds.drop n) (vs.drop n) H
  | _, _, 0, h => h
  | [], _, n + 1, h => by rw [show _ = _ from h]; rfl
  | d :: ds, _, n + 1, ⟨v, w, e, h1, h2⟩ => by subst e; exact imAll_drop n h2
theorem imAll_ints : ∀ {ns : List Int} {vs : List V}, imAll K B (ns.map .int) vs H ↔ vs = ns.map .int
  | [], vs => Iff.rfl
  | n :: ns, vs => by
    constructor
    · rintro ⟨v, w, e, h1, h2⟩
      rw [e, show v = .int n from h1, imAll_ints.mp h2]; rfl
    · intro e
      exact ⟨.int n, ns.map .int, e, rfl, imAll_ints.mpr rfl⟩
theorem imAll_bools : ∀ {bs : List Bool} {vs : List V}, imAll K B (bs.map .bool) vs H ↔ vs = bs.map .bl
  | [], vs => Iff.rfl
  | n :: ns, vs => by
    constructor
    · rintro ⟨v, w, e, h1, h2⟩
      rw [e, show v = .bl n from h1, imAll_bools.mp h2]; rfl
    · intro e
      exact ⟨.bl n, ns.map .bl, e, rfl, imAll_bools.mpr rfl⟩
mutual
theorem im_dp : ∀ (d : PyData) (v : V), im K B d v H → Dp K H v d
  | .none, _, h => by cases h; exact .non
  | .bool _, _, h => by cases h; exact .bl _
  | .int _, _, h => by cases h; exact .int _
  | .str _, _, h => by cases h; exact .str _
  | .tuple ds, _, ⟨a, vs, e, s, q⟩ => by subst e; exact .tup s (imAll_dp ds vs q)
  | .list ds, _, ⟨a, vs, e, n, s, q⟩ => by subst e; exact .lst s (imAll_dp ds vs q)
  | .dict _, _, h => h.elim
theorem imAll_dp : ∀ (ds : List PyData) (vs : List V), imAll K B ds vs H → DpAll K H vs ds
  | [], _, h => by rw [show _ = _ from h]; exact .nil
  | d :: ds, _, ⟨v, w, e, h1, h2⟩ => by subst e; exact .cons (im_dp d v h1) (imAll_dp ds w h2)
end
end

/-! ### the slots -/
structure SD (B : Bn) (H : Hp) (σ : L2.St) (δ : List (Option PV)) : Prop where
  ok : BOk B H
  len : σ.length = δ.length
  at_ : ∀ (i : Nat) (p : PV), δ[i]? = some (some p) → Stb B p ∧ ∃ v, σ[i]? = some (some v) ∧ p v H
def wip (δ : List (Option PV)) : List Nat → List (Option PV)
  | [] => δ
  | v :: vs => (wip δ vs).set v none
section
variable {B : Bn} {H H' : Hp} {σ : L2.St} {δ : List (Option PV)} {p : PV} {v : V} {i : Nat}
theorem SD.mono (s : SD B H σ δ) (r : RB B H H') : SD B H' σ δ := ⟨s.ok.mono r, s.len, fun i p e => by
  obtain ⟨hp, v, h1, h2⟩ := s.at_ i p e
  exact ⟨hp, v, h1, hp.st r h2⟩⟩
theorem SD.set (s : SD B H σ δ) [hp : Stb B p] (h : p v H) : SD B H (σ.set i (some v)) (δ.set i (some p)) := by
  refine ⟨s.ok, by rw [List.length_set, List.length_set, s.len], fun j q e => ?_⟩
  by_cases hj : i = j
  · subst hj
    have hl : i < δ.length := by
      rcases Nat.lt_or_ge i δ.length with z | z
      · exact z
      · rw [List.getElem?_eq_none (by rw [List.length_set]; exact z)] at e; cases e
    rw [List.getElem?_set_self hl] at e
    cases e
    exact ⟨hp, v, List.getElem?_set_self (by rw [s.len]; exact hl), h⟩
  · rw [List.getElem?_set_ne hj] at e
    obtain ⟨hq, w, h1, h2⟩ := s.at_ j q e
    exact ⟨hq, w, by rw [List.getElem?_set_ne hj]; exact h1, h2⟩
theorem SD.unset (s : SD B H σ δ) {o : Option V} : SD B H (σ.set i o) (δ.set i none) := by
  refine ⟨s.ok, by rw [List.length_set, List.length_set, s.len], fun j q e => ?_⟩
  by_cases hj : i = j
  · subst hj
    have hl : i < δ.length := by
      rcases Nat.lt_or_ge i δ.length with z | z
      · exact z
      · rw [List.getElem?_eq_none (by rw [List.length_set]; exact z)] at e; cases e
    rw [List.getElem?_set_self hl] at e
    cases e
  · rw [List.getElem?_set_ne hj] at e
    obtain ⟨hq, w, h1, h2⟩ := s.at_ j q e
    exact ⟨hq, w, by rw [List.getElem?_set_ne hj]; exact h1, h2⟩
theorem SD.wipe (s : SD B H σ δ) : ∀ vs : List Nat, SD B H (wipe σ vs) (wip δ vs)
  | [] => s
  | v :: vs => (SD.wipe s vs).unset
/-- the slots known by another list -/
def Weak : List (Option PV) → List (Option PV) → Prop
  | [], [] => True
  | _ :: a, none :: b => Weak a b
  | x :: a, y :: b => x = y ∧ Weak a b
  | _, _ => False
theorem Weak.len : ∀ {a b : List (Option PV)}, Weak a b → a.length = b.length
  | [], [], _ => rfl
  | _ :: a, none :: b, h => by rw [List.length_cons, List.length_cons, Weak.len (a := a) (b := b) h]
  | _ :: a, some _ :: b, h => by rw [List.length_cons, List.length_cons, Weak.len (a := a) (b := b) h.2]
  | [], _ :: _, h => h.elim
  | _ :: _, [], h => by cases h
theorem Weak.get : ∀ {a b : List (Option PV)} {i : Nat} {p : PV}, Weak a b → b[i]? = some (some p) → a[i]? = some (some p)
  | [], [], _, _, _, e => by simp at e
  | x :: a, none :: b, 0, p, _, e => by simp at e
  | x :: a, none :: b, i + 1, p, h, e => by
    have := Weak.get (a := a) (b := b) (i := i) (p := p) h (by simpa using e)
    simpa using this
  | x :: a, some y :: b, 0, p, h, e => by
    have e1 : y = p := by simpa using e
    rw [show x = some y from h.1, e1]; rfl
  | x :: a, some y :: b, i + 1, p, h, e => by
    have := Weak.get (a := a) (b := b) (i := i) (p := p) h.2 (by simpa using e)
    simpa using this
  | [], _ :: _, _, _, h, _ => h.elim
  | _ :: _, [], _, _, h, _ => by cases h
theorem SD.weak {δ' : List (Option PV)} (s : SD B H σ δ) (w : Weak δ δ') : SD B H σ δ' := ⟨s.ok, s.len.trans w.len, fun i p e => s.at_ i p (w.get e)⟩
/-- a slot's fact -/
theorem SD.get (s : SD B H σ δ) (e : δ[i]? = some (some p)) : ∃ v, σ[i]? = some (some v) ∧ p v H := (s.at_ i p e).2
end

/-! ### expressions -/
section
variable (R : Hp → Hp → Prop) (B : Bn)
def Ev (te : TE) (δ : List (Option PV)) (H : Hp) (p : PV) : Prop := ∀ σ H1, R H H1 → SD B H1 σ δ → ∀ Q : VK, (∀ v H2, R H1 H2 → p v H2 → Q v H2) → te σ H1 Q
def EvT (tt : TT) (δ : List (Option PV)) (H : Hp) (b : Bool) : Prop := ∀ σ H1, R H H1 → SD B H1 σ δ → ∀ Q : Bool → Hp → Prop, (∀ H2, R H1 H2 → Q b H2) → tt σ H1 Q
/-- a test whose answer is open -/
def EvTx (tt : TT) (δ : List (Option PV)) (H : Hp) (C : Bool → Prop) : Prop := ∀ σ H1, R H H1 → SD B H1 σ δ → ∀ Q : Bool → Hp → Prop, (∀ b H2, C b → R H1 H2 → Q b H2) → tt σ H1 Q
def pAll : List PV → List V → Hp → Prop
  | [], vs, _ => vs = []
  | p :: ps, vs, H => ∃ v r, vs = v :: r ∧ p v H ∧ pAll ps r H
def EvA (ta : TA) (δ : List (Option PV)) (H : Hp) (ps : List PV) : Prop := ∀ σ H1, R H H1 → SD B H1 σ δ → ∀ Q : List V → Hp → Prop, (∀ vs H2, R H1 H2 → pAll ps vs H2 → Q vs H2) → ta σ H1 Q
def EvO (to : TO) (δ : List (Option PV)) (H : Hp) (o : Option Int) : Prop := ∀ σ H1, R H H1 → SD B H1 σ δ → ∀ Q : Option Int → Hp → Prop, (∀ H2, R H1 H2 → Q o H2) → to σ H1 Q
/-- an operation on values -/
def RV (r : R2) (x y : V) (H : Hp) (p : PV) : Prop := ∀ Q : VK, (∀ v H2, Ex H H2 → p v H2 → Q v H2) → r x y H Q
def RC (r : List V → Hp → VK → Prop) (vs : List V) (H : Hp) (p : PV) : Prop := ∀ Q : VK, (∀ v H2, R H H2 → p v H2 → Q v H2) → r vs H Q
end
end EL

set_option Elab.async false
set_option linter.all false
set_option maxRecDepth 100000
set_option maxHeartbeats 4000000
set_option autoImplicit false
namespace EL
open PySem PySem.Spec PyProof.Rows L2
/-! ### rules of several kinds at once -/
def rOr (r r' : R2) : R2 := fun x y H Q => r x y H Q ∨ r' x y H Q
def rSlOr (r r' : V → Option Int → Option Int → Hp → VK → Prop) : V → Option Int → Option Int → Hp → VK → Prop := fun x lo hi H Q => r x lo hi H Q ∨ r' x lo hi H Q
def iOr (w w' : TI) : TI := fun σ H R => w σ H R ∨ w' σ H R
def rAddS : R2 := fun x y H Q => ∃ i j : Str, x = .str i ∧ y = .str j ∧ i.length + j.length ≤ sizeLine ∧ Q (.str (i ++ j)) H
def rAddU (K : PySem.W.Frag) : R2 := rOr (rI0 fun i j => .int (i + j)) (rOr (rCatA K) (rOr rCat rAddS))
def rMulU (K : PySem.W.Frag) : R2 := rOr (rI CMul fun i j => .int (i * j)) (rOr (rRepA K) rRep)
def rEqU (K : PySem.W.Frag) : R2 := rOr (rEqD K) rEq
def rNeU (K : PySem.W.Frag) : R2 := rOr (rNeD K) rNe
def rSlU (K : PySem.W.Frag) : V → Option Int → Option Int → Hp → VK → Prop := rSlOr (rSlL K) (rSlA K)
def iSeqU (K : PySem.W.Frag) (t : TE) : TI := iOr (iList K t) (iTup K t)
section
variable {X : Cx}
theorem op_or {f : Value → Value → Sem Value} {r r' : R2} (h : OpR X f r) (h' : OpR X f r') : OpR X f (rOr r r') := fun pins s σ H x y v u Q I rx ry q => by
  rcases q with q | q
  · exact h pins s σ H x y v u Q I rx ry q
  · exact h' pins s σ H x y v u Q I rx ry q
theorem op_addU : OpR X (binaryOp .Add) (rAddU X.K) := op_or op_add (op_or op_catA (op_or op_cat op_add_str))
theorem op_mulU : OpR X (binaryOp .Mult) (rMulU X.K) := op_or op_mul (op_or op_repA op_rep)
theorem op_eqU (hu : X.A.units + 64 < cLine) : OpR X (compareOp .Eq) (rEqU X.K) := op_or (op_eqD hu) op_eq
theorem op_neU (hu : X.A.units + 64 < cLine) : OpR X (compareOp .NotEq) (rNeU X.K) := op_or (op_neD hu) op_ne
theorem sl_seqU : SlR X (rSlU X.K) := SlR.or sl_list sl_tupA
theorem pi_or {tg l : Expr} {w w' : TI} (h : PI X tg l w) (h' : PI X tg l w') : PI X tg l (iOr w w') := ⟨fun pins s σ H R I q => by
  rcases q with q | q
  · exact h.run pins s σ H R I q
  · exact h'.run pins s σ H R I q⟩
theorem pi_seqU {tg l : Expr} {t : TE} (h : PE X l t) : PI X tg l (iSeqU X.K t) := pi_or (pi_list h) (pi_tup h)
end

/-! ### expressions by what their values are -/
section
variable {R : Hp → Hp → Prop} {B : Bn} [rk : Rok B R] {K : PySem.W.Frag} {δ : List (Option PV)} {H H' : Hp} {ta tb tc te : TE} {p q w : PV} {tt tu : TT}
theorem Ev.at_ (h : Ev R B te δ H p) (r : R H H') : Ev R B te δ H' p := fun σ H2 r2 => h σ H2 (rk.tr r r2)
theorem EvT.at_ {b : Bool} (h : EvT R B tt δ H b) (r : R H H') : EvT R B tt δ H' b := fun σ H2 r2 => h σ H2 (rk.tr r r2)
theorem Ev.conv (h : Ev R B te δ H p) (c : ∀ v H1, R H H1 → p v H1 → q v H1) : Ev R B te δ H q := fun σ H1 r S Q k => h σ H1 r S Q fun v H2 r2 pv => k v H2 r2 (c v H2 (rk.tr r r2) pv)
theorem Ev.is (h : Ev R B te δ H p) (e : p = q) : Ev R B te δ H q := e ▸ h
theorem ev_var {i : Nat} (h : δ[i]? = some (some p)) : Ev R B (tVar i) δ H p := fun σ H1 r S Q k => let ⟨v, e, pv⟩ := S.get h; ⟨v, e, k v H1 (rk.rf H1) pv⟩
theorem ev_c {v : V} : Ev R B (tC v) δ H (isP v) := fun σ H1 r S Q k => k v H1 (rk.rf H1) rfl
theorem ev_int {i : Int} : Ev R B (tC (.int i)) δ H (im K B (.int i)) := ev_c
theorem ev_bool {b : Bool} : Ev R B (tC (.bl b)) δ H (im K B (.bool b)) := ev_c
theorem ev_str {x : Str} : Ev R B (tC (.str x)) δ H (im K B (.str x)) := ev_c
theorem ev_non : Ev R B (tC .non) δ H (im K B .none) := ev_c
theorem ev_op {r : R2} [Stb B p] (ha : Ev R B ta δ H p) (hb : Ev R B tb δ H q) (hr : ∀ x y H1, R H H1 → BOk B H1 → p x H1 → q y H1 → RV r x y H1 w) : Ev R B (tOp r ta tb) δ H w :=
  fun σ H1 r1 S Q k => ha σ H1 r1 S _ fun x H2 r2 px => hb σ H2 (rk.tr r1 r2) (S.mono (rk.rb r2)) _ fun y H3 r3 qy =>
    hr x y H3 (rk.tr (rk.tr r1 r2) r3) (S.ok.mono ((rk.rb r2).trans (rk.rb r3))) (Stb.st (rk.rb r3) px) qy Q fun v H4 e4 wv => k v H4 (rk.tr (rk.tr r2 r3) (rk.ex e4)) wv
theorem ev_un {r : V → Hp → VK → Prop} (ha : Ev R B ta δ H p) (hr : ∀ x H1, R H H1 → p x H1 → ∀ Q : VK, (∀ v H2, Ex H1 H2 → w v H2 → Q v H2) → r x H1 Q) : Ev R B (tUn r ta) δ H w :=
  fun σ H1 r1 S Q k => ha σ H1 r1 S _ fun x H2 r2 px => hr x H2 (rk.tr r1 r2) px Q fun v H3 e3 wv => k v H3 (rk.tr r2 (rk.ex e3)) wv
theorem rv_I0 {g : Int → Int → V} {i j : Int} {x y : V} (hx : x = .int i) (hy : y = .int j) : RV (rI0 g) x y H (isP (g i j)) := fun Q k => ⟨i, j, hx, hy, k _ H (Ex.refl H) rfl⟩
theorem rv_I {C : Int → Int → Prop} {g : Int → Int → V} {i j : Int} {x y : V} (hx : x = .int i) (hy : y = .int j) (hc : C i j) : RV (rI C g) x y H (isP (g i j)) := fun Q k => ⟨i, j, hx, hy, hc, k _ H (Ex.refl H) rfl⟩
/-- ints -/
theorem ev_I0 {g : Int → Int → V} {i j : Int} (ha : Ev R B ta δ H (im K B (.int i))) (hb : Ev R B tb δ H (im K B (.int j))) : Ev R B (tOp (rI0 g) ta tb) δ H (isP (g i j)) := ev_op ha hb fun _ _ _ _ _ hx hy => rv_I0 hx hy
theorem ev_lt {i j : Int} (ha : Ev R B ta δ H (im K B (.int i))) (hb : Ev R B tb δ H (im K B (.int j))) : Ev R B (tOp (rI0 fun i j => .bl (decide (i < j))) ta tb) δ H (im K B (.bool (decide (i < j)))) := ev_I0 ha hb
theorem ev_le {i j : Int} (ha : Ev R B ta δ H (im K B (.int i))) (hb : Ev R B tb δ H (im K B (.int j))) : Ev R B (tOp (rI0 fun i j => .bl (decide (i ≤ j))) ta tb) δ H (im K B (.bool (decide (i ≤ j)))) := ev_I0 ha hb
theorem ev_gt {i j : Int} (ha : Ev R B ta δ H (im K B (.int i))) (hb : Ev R B tb δ H (im K B (.int j))) : Ev R B (tOp (rI0 fun i j => .bl (decide (j < i))) ta tb) δ H (im K B (.bool (decide (j < i)))) := ev_I0 ha hb
theorem ev_ge {i j : Int} (ha : Ev R B ta δ H (im K B (.int i))) (hb : Ev R B tb δ H (im K B (.int j))) : Ev R B (tOp (rI0 fun i j => .bl (decide (j ≤ i))) ta tb) δ H (im K B (.bool (decide (j ≤ i)))) := ev_I0 ha hb
theorem ev_sub {i j : Int} (ha : Ev R B ta δ H (im K B (.int i))) (hb : Ev R B tb δ H (im K B (.int j))) : Ev R B (tOp (rI0 fun i j => .int (i - j)) ta tb) δ H (im K B (.int (i - j))) := ev_I0 ha hb
theorem ev_add {i j : Int} (ha : Ev R B ta δ H (im K B (.int i))) (hb : Ev R B tb δ H (im K B (.int j))) : Ev R B (tOp (rAddU K) ta tb) δ H (im K B (.int (i + j))) :=
  ev_op ha hb fun _ _ _ _ _ hx hy Q k => .inl (rv_I0 hx hy Q k)
theorem ev_mul {i j : Int} (ha : Ev R B ta δ H (im K B (.int i))) (hb : Ev R B tb δ H (im K B (.int j))) (hc : CMul i j) : Ev R B (tOp (rMulU K) ta tb) δ H (im K B (.int (i * j))) :=
  ev_op ha hb fun _ _ _ _ _ hx hy Q k => .inl (rv_I hx hy hc Q k)
theorem ev_mod {i j : Int} (ha : Ev R B ta δ H (im K B (.int i))) (hb : Ev R B tb δ H (im K B (.int j))) (hc : j ≠ 0) : Ev R B (tOp (rI (fun _ j => j ≠ 0) fun i j => .int (i.fmod j)) ta tb) δ H (im K B (.int (i.fmod j))) :=
  ev_op ha hb fun _ _ _ _ _ hx hy => rv_I (C := fun _ j => j ≠ 0) (g := fun i j => .int (i.fmod j)) hx hy hc
theorem ev_fdiv {i j : Int} (ha : Ev R B ta δ H (im K B (.int i))) (hb : Ev R B tb δ H (im K B (.int j))) (hc : CDivN i j) : Ev R B (tOp (rI CDivN fun i j => .int (i.fdiv j)) ta tb) δ H (im K B (.int (i.fdiv j))) :=
  ev_op ha hb fun _ _ _ _ _ hx hy => rv_I (C := CDivN) (g := fun i j => .int (i.fdiv j)) hx hy hc
theorem ev_pow {i j : Int} (ha : Ev R B ta δ H (im K B (.int i))) (hb : Ev R B tb δ H (im K B (.int j))) (hc : CPow i j) : Ev R B (tOp (rI CPow fun i j => .int (i ^ j.toNat)) ta tb) δ H (im K B (.int (i ^ j.toNat))) :=
  ev_op ha hb fun _ _ _ _ _ hx hy => rv_I (C := CPow) (g := fun i j => .int (i ^ j.toNat)) hx hy hc
theorem ev_neg {i : Int} (ha : Ev R B ta δ H (im K B (.int i))) : Ev R B (tUn (rU fun i => .int (-i)) ta) δ H (im K B (.int (-i))) :=
  ev_un ha fun x H1 _ hx Q k => ⟨i, hx, k _ H1 (Ex.refl H1) rfl⟩
/-- the items of tuples, of lists -/
theorem atI_im {ds : List PyData} {vs : List V} {i : Int} {d : PyData} (h : imAll K B ds vs H) (e : atI ds i = some d) : ∃ v, atI vs i = some v ∧ im K B d v H := by
  unfold atI at e ⊢
  rw [imAll_len h]
  cases q : ixN ds.length i with
  | none => rw [q] at e; cases e
  | some j =>
    rw [q] at e
    obtain ⟨v, e1, e2⟩ := imAll_get h (show ds[j]? = some d from e)
    exact ⟨v, e1, e2⟩
theorem ev_ixT {ds : List PyData} {i : Int} {d : PyData} (ha : Ev R B ta δ H (im K B (.tuple ds))) (hb : Ev R B tb δ H (im K B (.int i))) (e : atI ds i = some d) : Ev R B (tOp (rIx K) ta tb) δ H (im K B d) :=
  ev_op ha hb fun x y H1 _ _ ⟨a, vs, hx, hs, hv⟩ hy Q k => by
    obtain ⟨v, e1, e2⟩ := atI_im hv e
    exact .inr (.inl ⟨a, vs, i, v, hx, hy, hs, e1, k v H1 (Ex.refl H1) e2⟩)
theorem ev_ixL {ds : List PyData} {i : Int} {d : PyData} (ha : Ev R B ta δ H (im K B (.list ds))) (hb : Ev R B tb δ H (im K B (.int i))) (e : atI ds i = some d) : Ev R B (tOp (rIx K) ta tb) δ H (im K B d) :=
  ev_op ha hb fun x y H1 _ _ ⟨a, vs, hx, _, hs, hv⟩ hy Q k => by
    obtain ⟨v, e1, e2⟩ := atI_im hv e
    exact .inl ⟨a, vs, i, v, hx, hy, hs, e1, k v H1 (Ex.refl H1) e2⟩
/-- arguments -/
theorem ea_nil : EvA R B tNil δ H [] := fun σ H1 r S Q k => k [] H1 (rk.rf H1) rfl
theorem ea_cons {tr : TA} {ps : List PV} [Stb B p] (h : Ev R B ta δ H p) (hr : EvA R B tr δ H ps) : EvA R B (tCons ta tr) δ H (p :: ps) := fun σ H1 r S Q k =>
  h σ H1 r S _ fun v H2 r2 pv => hr σ H2 (rk.tr r r2) (S.mono (rk.rb r2)) _ fun vs H3 r3 pr => k (v :: vs) H3 (rk.tr r2 r3) ⟨v, vs, rfl, Stb.st (rk.rb r3) pv, pr⟩
theorem ev_cb {r : List V → Hp → VK → Prop} {ta : TA} {ps : List PV} (h : EvA R B ta δ H ps) (hr : ∀ vs H1, R H H1 → BOk B H1 → pAll ps vs H1 → RC R r vs H1 w) : Ev R B (tCB r ta) δ H w := fun σ H1 r1 S Q k =>
  h σ H1 r1 S _ fun vs H2 r2 pr => hr vs H2 (rk.tr r1 r2) (S.ok.mono (rk.rb r2)) pr Q fun v H3 r3 wv => k v H3 (rk.tr r2 r3) wv
theorem imAll_of_pAll : ∀ {ds : List PyData} {vs : List V}, pAll (ds.map (im K B)) vs H → imAll K B ds vs H
  | [], _, h => h
  | d :: ds, _, ⟨v, r, e, h1, h2⟩ => ⟨v, r, e, h1, imAll_of_pAll h2⟩
theorem pAll_of_imAll : ∀ {ds : List PyData} {vs : List V}, imAll K B ds vs H → pAll (ds.map (im K B)) vs H
  | [], _, h => h
  | d :: ds, _, ⟨v, r, e, h1, h2⟩ => ⟨v, r, e, h1, pAll_of_imAll h2⟩
/-- new tuples and lists -/
theorem not_ban {p : Addr} (o : BOk B H) (h : H p = none) : ¬ B p := fun b => o p b h
theorem ev_tup {ta : TA} {ds : List PyData} (h : EvA R B ta δ H (ds.map (im K B))) (hl : ds.length ≤ sizeLine) : Ev R B (tTup ta) δ H (im K B (.tuple ds)) := fun σ H1 r1 S Q k =>
  h σ H1 r1 S _ fun vs H2 r2 pr => by
    have hv := imAll_of_pAll pr
    refine ⟨by rw [imAll_len hv]; exact hl, fun a ha => k _ _ (rk.tr r2 (rk.ex (Ex.new ha))) ⟨a, vs, rfl, sqT_of upd_same, imAll_st (RB.of_ex (Ex.new ha)) _ _ hv⟩⟩
theorem ev_lst {ta : TA} {ds : List PyData} (h : EvA R B ta δ H (ds.map (im K B))) (hl : ds.length ≤ sizeLine) : Ev R B (tLst ta) δ H (im K B (.list ds)) := fun σ H1 r1 S Q k =>
  h σ H1 r1 S _ fun vs H2 r2 pr => by
    have hv := imAll_of_pAll pr
    refine ⟨by rw [imAll_len hv]; exact hl, fun a ha => k _ _ (rk.tr r2 (rk.ex (Ex.new ha))) ⟨a, vs, rfl, not_ban (S.ok.mono (rk.rb r2)) ha, sqL_of upd_same, imAll_st (RB.of_ex (Ex.new ha)) _ _ hv⟩⟩
/-- len, tuple(..), list(..) -/
def rLenQ (K : PySem.W.Frag) : List V → Hp → VK → Prop := fun xs H Q => ∃ p ys, xs = [.ref p] ∧ (SqL K H p ys ∨ SqT K H p ys) ∧ Q (.int ys.length) H
theorem ev_lenT {ds : List PyData} (ha : Ev R B ta δ H (im K B (.tuple ds))) : Ev R B (tCB (rLenQ K) (tCons ta tNil)) δ H (im K B (.int ds.length)) :=
  ev_cb (ea_cons ha ea_nil) fun vs H1 _ _ ⟨v, r, e, ⟨a, xs, e1, s, h⟩, e2⟩ Q k => by
    subst e e1; cases (show r = [] from e2)
    exact ⟨a, xs, rfl, .inr s, k _ H1 (rk.rf H1) (by rw [imAll_len h]; rfl)⟩
theorem ev_lenL {ds : List PyData} (ha : Ev R B ta δ H (im K B (.list ds))) : Ev R B (tCB (rLenQ K) (tCons ta tNil)) δ H (im K B (.int ds.length)) :=
  ev_cb (ea_cons ha ea_nil) fun vs H1 _ _ ⟨v, r, e, ⟨a, xs, e1, _, s, h⟩, e2⟩ Q k => by
    subst e e1; cases (show r = [] from e2)
    exact ⟨a, xs, rfl, .inl s, k _ H1 (rk.rf H1) (by rw [imAll_len h]; rfl)⟩
def rTupQ (K : PySem.W.Frag) : List V → Hp → VK → Prop := fun xs H Q => ∃ p ys, xs = [.ref p] ∧ ((SqL K H p ys ∧ ∀ l, H l = none → Q (.ref l) (upd H l (.tup ys))) ∨ (SqT K H p ys ∧ Q (.ref p) H))
theorem ev_tupleL {ds : List PyData} (ha : Ev R B ta δ H (im K B (.list ds))) : Ev R B (tCB (rTupQ K) (tCons ta tNil)) δ H (im K B (.tuple ds)) :=
  ev_cb (ea_cons ha ea_nil) fun vs H1 _ _ ⟨v, r, e, ⟨a, xs, e1, _, s, h⟩, e2⟩ Q k => by
    subst e e1; cases (show r = [] from e2)
    exact ⟨a, xs, rfl, .inl ⟨s, fun l hl => k _ _ (rk.ex (Ex.new hl)) ⟨l, xs, rfl, sqT_of upd_same, imAll_st (RB.of_ex (Ex.new hl)) _ _ h⟩⟩⟩
theorem ev_tupleT {ds : List PyData} (ha : Ev R B ta δ H (im K B (.tuple ds))) : Ev R B (tCB (rTupQ K) (tCons ta tNil)) δ H (im K B (.tuple ds)) :=
  ev_cb (ea_cons ha ea_nil) fun vs H1 _ _ ⟨v, r, e, ⟨a, xs, e1, s, h⟩, e2⟩ Q k => by
    subst e e1; cases (show r = [] from e2)
    exact ⟨a, xs, rfl, .inr ⟨s, k _ H1 (rk.rf H1) ⟨a, xs, rfl, s, h⟩⟩⟩
def rListQ (K : PySem.W.Frag) : List V → Hp → VK → Prop := fun xs H Q => ∃ p ys, xs = [.ref p] ∧ (SqL K H p ys ∨ SqT K H p ys) ∧ ∀ l, H l = none → Q (.ref l) (upd H l (.lst ys))
theorem ev_listL {ds : List PyData} (ha : Ev R B ta δ H (im K B (.list ds))) : Ev R B (tCB (rListQ K) (tCons ta tNil)) δ H (im K B (.list ds)) :=
  ev_cb (ea_cons ha ea_nil) fun vs H1 _ o ⟨v, r, e, ⟨a, xs, e1, _, s, h⟩, e2⟩ Q k => by
    subst e e1; cases (show r = [] from e2)
    exact ⟨a, xs, rfl, .inl s, fun l hl => k _ _ (rk.ex (Ex.new hl)) ⟨l, xs, rfl, not_ban o hl, sqL_of upd_same, imAll_st (RB.of_ex (Ex.new hl)) _ _ h⟩⟩
theorem ev_listT {ds : List PyData} (ha : Ev R B ta δ H (im K B (.tuple ds))) : Ev R B (tCB (rListQ K) (tCons ta tNil)) δ H (im K B (.list ds)) :=
  ev_cb (ea_cons ha ea_nil) fun vs H1 _ o ⟨v, r, e, ⟨a, xs, e1, s, h⟩, e2⟩ Q k => by
    subst e e1; cases (show r = [] from e2)
    exact ⟨a, xs, rfl, .inr s, fun l hl => k _ _ (rk.ex (Ex.new hl)) ⟨l, xs, rfl, not_ban o hl, sqL_of upd_same, imAll_st (RB.of_ex (Ex.new hl)) _ _ h⟩⟩
/-- t + u -/
theorem ev_catT {ds es : List PyData} (ha : Ev R B ta δ H (im K B (.tuple ds))) (hb : Ev R B tb δ H (im K B (.tuple es))) (hl : ds.length + es.length ≤ sizeLine) : Ev R B (tOp (rAddU K) ta tb) δ H (im K B (.tuple (ds ++ es))) :=
  ev_op ha hb fun x y H1 _ _ ⟨a, vs, hx, hs, hv⟩ ⟨b, us, hy, ht, hu⟩ Q k => by
    refine .inr (.inl ⟨a, b, vs, us, hx, hy, hs, ht, by rw [imAll_len hv, imAll_len hu]; exact hl, fun e => ?_, fun _ e => ?_, fun _ _ l hn => ?_⟩)
    · subst e
      have : ds = [] := List.eq_nil_of_length_eq_zero (imAll_len hv).symm
      subst this
      exact k _ H1 (Ex.refl H1) ⟨b, us, rfl, ht, hu⟩
    · subst e
      have : es = [] := List.eq_nil_of_length_eq_zero (imAll_len hu).symm
      subst this
      exact k _ H1 (Ex.refl H1) (by rw [List.append_nil]; exact ⟨a, vs, rfl, hs, hv⟩)
    · exact k _ _ (Ex.new hn) ⟨l, vs ++ us, rfl, sqT_of upd_same, imAll_st (RB.of_ex (Ex.new hn)) _ _ (imAll_append hv hu)⟩
theorem imAll_rep {ds : List PyData} {vs : List V} (h : imAll K B ds vs H) : ∀ n : Nat, imAll K B (List.replicate n ds).flatten (List.replicate n vs).flatten H
  | 0 => rfl
  | n + 1 => by
    rw [List.replicate_succ, List.replicate_succ, List.flatten_cons, List.flatten_cons]
    exact imAll_append h (imAll_rep h n)
/-- t * k -/
theorem rv_rep {ds : List PyData} {x y : V} {k : Int} (hx : im K B (.tuple ds) x H) (hy : y = .int k) (h0 : 0 ≤ k) (h1 : k ≤ 1000) (hl : ds.length ≤ 1000) : RV (rMulU K) x y H (im K B (.tuple (List.replicate k.toNat ds).flatten)) := fun Q q => by
  obtain ⟨a, vs, e, s, hv⟩ := hx
  refine .inr (.inl ⟨a, k, vs, e, hy, s, h0, h1, by rw [imAll_len hv]; exact hl, fun z => q _ H (Ex.refl H) ⟨a, vs, rfl, s, ?_⟩, fun _ _ p hp => q _ _ (Ex.new hp) ⟨p, _, rfl, sqT_of upd_same, imAll_st (RB.of_ex (Ex.new hp)) _ _ (imAll_rep hv _)⟩⟩)
  rcases z with z | z
  · subst z
    have : ds = [] := List.eq_nil_of_length_eq_zero (imAll_len hv).symm
    subst this
    rw [show (List.replicate k.toNat ([] : List PyData)).flatten = [] by simp]
    exact hv
  · subst z
    rw [show (List.replicate (1 : Int).toNat ds).flatten = ds by simp]
    exact hv
theorem ev_rep {ds : List PyData} {k : Int} (ha : Ev R B ta δ H (im K B (.tuple ds))) (hb : Ev R B tb δ H (im K B (.int k))) (h0 : 0 ≤ k) (h1 : k ≤ 1000) (hl : ds.length ≤ 1000) : Ev R B (tOp (rMulU K) ta tb) δ H (im K B (.tuple (List.replicate k.toNat ds).flatten)) :=
  ev_op ha hb fun x y H1 _ _ hx hy => rv_rep hx hy h0 h1 hl
/-- == and != of data -/
theorem ev_eq {d e : PyData} (ha : Ev R B ta δ H (im K B d)) (hb : Ev R B tb δ H (im K B e)) (h1 : SeqAt.shaped d = true) (h2 : SeqAt.shaped e = true) : Ev R B (tOp (rEqU K) ta tb) δ H (im K B (.bool (PyData.eqv d e))) :=
  ev_op ha hb fun x y H1 _ _ hx hy Q k => .inl ⟨d, e, im_dp _ _ hx, im_dp _ _ hy, h1, h2, k _ H1 (Ex.refl H1) rfl⟩
theorem ev_ne {d e : PyData} (ha : Ev R B ta δ H (im K B d)) (hb : Ev R B tb δ H (im K B e)) (h1 : SeqAt.shaped d = true) (h2 : SeqAt.shaped e = true) : Ev R B (tOp (rNeU K) ta tb) δ H (im K B (.bool (!PyData.eqv d e))) :=
  ev_op ha hb fun x y H1 _ _ hx hy Q k => .inl ⟨d, e, im_dp _ _ hx, im_dp _ _ hy, h1, h2, k _ H1 (Ex.refl H1) rfl⟩
theorem ev_eqI {i j : Int} (ha : Ev R B ta δ H (im K B (.int i))) (hb : Ev R B tb δ H (im K B (.int j))) : Ev R B (tOp (rEqU K) ta tb) δ H (im K B (.bool (decide (i = j)))) :=
  ev_op ha hb fun x y H1 _ _ hx hy Q k => .inr ⟨by rw [show x = _ from hx, show y = _ from hy]; rfl, k _ H1 (Ex.refl H1) (by rw [show x = _ from hx, show y = _ from hy]; show V.bl _ = V.bl _; congr 1; by_cases z : i = j <;> simp [z])⟩
theorem ev_neI {i j : Int} (ha : Ev R B ta δ H (im K B (.int i))) (hb : Ev R B tb δ H (im K B (.int j))) : Ev R B (tOp (rNeU K) ta tb) δ H (im K B (.bool (!decide (i = j)))) :=
  ev_op ha hb fun x y H1 _ _ hx hy Q k => .inr ⟨by rw [show x = _ from hx, show y = _ from hy]; rfl, k _ H1 (Ex.refl H1) (by rw [show x = _ from hx, show y = _ from hy]; show V.bl _ = V.bl _; congr 1; by_cases z : i = j <;> simp [z])⟩
theorem ev_eqS {i j : Str} (ha : Ev R B ta δ H (im K B (.str i))) (hb : Ev R B tb δ H (im K B (.str j))) : Ev R B (tOp (rEqU K) ta tb) δ H (im K B (.bool (decide (i = j)))) :=
  ev_op ha hb fun x y H1 _ _ hx hy Q k => .inr ⟨by rw [show x = _ from hx, show y = _ from hy]; rfl, k _ H1 (Ex.refl H1) (by rw [show x = _ from hx, show y = _ from hy]; show V.bl _ = V.bl _; congr 1; by_cases z : i = j <;> simp [z])⟩
theorem ev_neS {i j : Str} (ha : Ev R B ta δ H (im K B (.str i))) (hb : Ev R B tb δ H (im K B (.str j))) : Ev R B (tOp (rNeU K) ta tb) δ H (im K B (.bool (!decide (i = j)))) :=
  ev_op ha hb fun x y H1 _ _ hx hy Q k => .inr ⟨by rw [show x = _ from hx, show y = _ from hy]; rfl, k _ H1 (Ex.refl H1) (by rw [show x = _ from hx, show y = _ from hy]; show V.bl _ = V.bl _; congr 1; by_cases z : i = j <;> simp [z])⟩
/-- truths -/
theorem et_test {b : Bool} (h : Ev R B te δ H (im K B (.bool b))) : EvT R B (tTest te) δ H b := fun σ H1 r S Q k => h σ H1 r S _ fun v H2 r2 e => ⟨b, e, k H2 r2⟩
theorem et_B {b : Bool} (h : Ev R B te δ H (im K B (.bool b))) : EvT R B (tB te) δ H b := fun σ H1 r S Q k => h σ H1 r S _ fun v H2 r2 e => ⟨b, e, k H2 r2⟩
theorem et_not {b : Bool} (h : EvT R B tt δ H b) : EvT R B (tNot tt) δ H (!b) := fun σ H1 r S Q k => h σ H1 r S _ fun H2 r2 => k H2 r2
theorem et_and {a b : Bool} (h1 : EvT R B tt δ H a) (h2 : a = true → EvT R B tu δ H b) : EvT R B (tAnd tt tu) δ H (a && b) := fun σ H1 r S Q k => h1 σ H1 r S _ fun H2 r2 => by
  cases a with
  | true => exact h2 rfl σ H2 (rk.tr r r2) (S.mono (rk.rb r2)) Q fun H3 r3 => k H3 (rk.tr r2 r3)
  | false => exact k H2 r2
theorem et_or {a b : Bool} (h1 : EvT R B tt δ H a) (h2 : a = false → EvT R B tu δ H b) : EvT R B (tOr tt tu) δ H (a || b) := fun σ H1 r S Q k => h1 σ H1 r S _ fun H2 r2 => by
  cases a with
  | true => exact k H2 r2
  | false => exact h2 rfl σ H2 (rk.tr r r2) (S.mono (rk.rb r2)) Q fun H3 r3 => k H3 (rk.tr r2 r3)
theorem EvT.is {a b : Bool} (h : EvT R B tt δ H a) (e : a = b) : EvT R B tt δ H b := e ▸ h
theorem ev_and {a b : Bool} (h1 : Ev R B ta δ H (im K B (.bool a))) (h2 : a = true → Ev R B tb δ H (im K B (.bool b))) : Ev R B (tAndV ta tb) δ H (im K B (.bool (a && b))) := fun σ H1 r S Q k => h1 σ H1 r S _ fun v H2 r2 e => ⟨a, e, by
  cases a with
  | true => exact h2 rfl σ H2 (rk.tr r r2) (S.mono (rk.rb r2)) Q fun v H3 r3 e => k v H3 (rk.tr r2 r3) e
  | false => exact k _ H2 r2 rfl⟩
theorem ev_or {a b : Bool} (h1 : Ev R B ta δ H (im K B (.bool a))) (h2 : a = false → Ev R B tb δ H (im K B (.bool b))) : Ev R B (tOrV ta tb) δ H (im K B (.bool (a || b))) := fun σ H1 r S Q k => h1 σ H1 r S _ fun v H2 r2 e => ⟨a, e, by
  cases a with
  | true => exact k _ H2 r2 rfl
  | false => exact h2 rfl σ H2 (rk.tr r r2) (S.mono (rk.rb r2)) Q fun v H3 r3 e => k v H3 (rk.tr r2 r3) e⟩
theorem ev_not {a : Bool} (h1 : Ev R B ta δ H (im K B (.bool a))) : Ev R B (tNotV ta) δ H (im K B (.bool (!a))) := fun σ H1 r S Q k => h1 σ H1 r S _ fun v H2 r2 e => ⟨a, e, k _ H2 r2 rfl⟩
theorem ev_if {b : Bool} (h : EvT R B tt δ H b) (h1 : b = true → Ev R B ta δ H p) (h2 : b = false → Ev R B tb δ H p) : Ev R B (tIf tt ta tb) δ H p := fun σ H1 r S Q k => h σ H1 r S _ fun H2 r2 => by
  cases b with
  | true => exact h1 rfl σ H2 (rk.tr r r2) (S.mono (rk.rb r2)) Q fun v H3 r3 pv => k v H3 (rk.tr r2 r3) pv
  | false => exact h2 rfl σ H2 (rk.tr r r2) (S.mono (rk.rb r2)) Q fun v H3 r3 pv => k v H3 (rk.tr r2 r3) pv
end

/-! ### statements -/
section
variable {R : Hp → Hp → Prop} {B : Bn} [rk : Rok B R] {K : PySem.W.Frag} {δ : List (Option PV)} {H H' : Hp} {ta tb tc te : TE} {p q w : PV} {tt tu : TT} {D : Ends} {σ : L2.St} {t u : TS} {i j l : Nat}
theorem st_seq {t1 t2 : TS} (z : t1 { D with nx := t2 D } σ H) : tSeq t1 t2 D σ H := z
theorem st_set [Stb B p] (S : SD B H σ δ) (h : Ev R B te δ H p) (k : ∀ σ' H2, R H H2 → SD B H2 σ' (δ.set i (some p)) → D.nx σ' H2) : tAsg te (gName i) D σ H :=
  h σ H (rk.rf H) S _ fun v H2 r2 pv => k _ H2 r2 ((S.mono (rk.rb r2)).set pv)
theorem st_setx {α : Type} {C : α → Prop} {q : α → PV} [∀ a, Stb B (q a)] (S : SD B H σ δ) (h : Ev R B te δ H (exP C q)) (k : ∀ a σ' H2, C a → R H H2 → SD B H2 σ' (δ.set i (some (q a))) → D.nx σ' H2) : tAsg te (gName i) D σ H :=
  h σ H (rk.rf H) S _ fun v H2 r2 ⟨a, c, pv⟩ => k a _ H2 c r2 ((S.mono (rk.rb r2)).set pv)
theorem st_if {b : Bool} (S : SD B H σ δ) (h : EvT R B tt δ H b) (k1 : b = true → ∀ H2, R H H2 → SD B H2 σ δ → t D σ H2) (k2 : b = false → ∀ H2, R H H2 → SD B H2 σ δ → u D σ H2) : tIfS tt t u D σ H :=
  h σ H (rk.rf H) S _ fun H2 r2 => by
    cases b with
    | true => exact k1 rfl H2 r2 (S.mono (rk.rb r2))
    | false => exact k2 rfl H2 r2 (S.mono (rk.rb r2))
theorem st_ret (S : SD B H σ δ) (h : Ev R B te δ H p) (k : ∀ v H2, R H H2 → p v H2 → D.rt v H2) : tRet te D σ H := h σ H (rk.rf H) S _ k
theorem st_expr (S : SD B H σ δ) (h : Ev R B te δ H p) (k : ∀ H2, R H H2 → SD B H2 σ δ → D.nx σ H2) : tDrop te D σ H := h σ H (rk.rf H) S _ fun v H2 r2 _ => k H2 r2 (S.mono (rk.rb r2))
theorem st_par {ta : TA} {p q : PV} [Stb B p] [Stb B q] (S : SD B H σ δ) (h : EvA R B ta δ H [p, q]) (k : ∀ σ' H2, R H H2 → SD B H2 σ' ((δ.set i (some p)).set j (some q)) → D.nx σ' H2) : tPar i j ta D σ H :=
  h σ H (rk.rf H) S _ fun vs H2 r2 ⟨v, r, e, pv, v2, r', e', qv, e''⟩ => ⟨v, v2, by subst e e'; cases (show r' = [] from e''); rfl, k _ H2 r2 (((S.mono (rk.rb r2)).set pv).set qv)⟩
theorem st_par3 {ta : TA} {p q w : PV} [Stb B p] [Stb B q] [Stb B w] (S : SD B H σ δ) (h : EvA R B ta δ H [p, q, w]) (k : ∀ σ' H2, R H H2 → SD B H2 σ' (((δ.set i (some p)).set j (some q)).set l (some w)) → D.nx σ' H2) : tPar3 i j l ta D σ H :=
  h σ H (rk.rf H) S _ fun vs H2 r2 ⟨v, r, e, pv, v2, r', e', qv, v3, r'', e'', wv, e3⟩ => ⟨v, v2, v3, by subst e e' e''; cases (show r'' = [] from e3); rfl, k _ H2 r2 ((((S.mono (rk.rb r2)).set pv).set qv).set wv)⟩
/-- a, b = a pair -/
theorem st_unpack2 {d e : PyData} (S : SD B H σ δ) (h : Ev R B te δ H (im K B (.tuple [d, e]))) (k : ∀ σ' H2, R H H2 → SD B H2 σ' ((δ.set i (some (im K B d))).set j (some (im K B e))) → D.nx σ' H2) :
    tAsg te (gTup K 2 (gCons (gName i) (gCons (gName j) gNil))) D σ H :=
  h σ H (rk.rf H) S _ fun v H2 r2 ⟨a, vs, ev, s, v1, r1, e1, h1, v2, r2', e2, h2, e3⟩ => by
    subst ev e1 e2; cases (show r2' = [] from e3)
    exact ⟨a, _, rfl, s, rfl, v1, _, rfl, v2, _, rfl, rfl, k _ H2 r2 (((S.mono (rk.rb r2)).set h1).set h2)⟩
end
end EL

set_option Elab.async false
set_option linter.all false
set_option maxRecDepth 100000
set_option maxHeartbeats 4000000
set_option autoImplicit false
namespace EL
open PySem PySem.Spec PyProof.Rows L2
abbrev FnP (K : PySem.W.Frag) (x : Str) (st : Stmt) (f : Addr) (fd : FuncData) : Prop := FunD K x x (defArgs st) (defBody st) (defScope st) [] [] f fd
/-- a def that only reads: the answer is the data res a -/
def pureSp {α : Type} (K : PySem.W.Frag) (args : α → List PyData) (pre : α → Prop) (res : α → PyData) : Sp := fun vs H Q _ =>
  ∃ (B : Bn) (a : α), BOk B H ∧ imAll K B (args a) vs H ∧ pre a ∧ ∀ v H', Ex H H' → im K B (res a) v H' → Q v H'
theorem pureSp.len {α : Type} {K : PySem.W.Frag} {args : α → List PyData} {pre : α → Prop} {res : α → PyData} {n : Nat} (h : ∀ a, (args a).length = n) {vs : List V} {H : Hp} {Q : VK} {E : XK} (q : pureSp K args pre res vs H Q E) : vs.length = n := by
  obtain ⟨B, a, _, h1, _⟩ := q
  rw [imAll_len h1]; exact h a
theorem SD.start {K : PySem.W.Frag} {B : Bn} {H : Hp} {N : List Str} {ds : List PyData} {vs : List V} (o : BOk B H) (h : imAll K B ds vs H) :
    SD B H (start N vs) (ds.map (fun d => some (im K B d)) ++ List.replicate (N.length - ds.length) none) := by
  have hl := imAll_len h
  refine ⟨o, ?_, fun i p e => ?_⟩
  · unfold L2.start
    rw [List.length_append, List.length_append, List.length_map, List.length_map, List.length_replicate, List.length_replicate, hl]
  · by_cases hi : i < ds.length
    · rw [List.getElem?_append_left (by rw [List.length_map]; exact hi), List.getElem?_map, List.getElem?_eq_getElem hi] at e
      have e2 : im K B ds[i] = p := by simpa using e
      obtain ⟨v, h1, h2⟩ := imAll_get h (List.getElem?_eq_getElem hi)
      subst e2
      refine ⟨inferInstance, v, ?_, h2⟩
      unfold L2.start
      rw [List.getElem?_append_left (by rw [List.length_map, hl]; exact hi), List.getElem?_map, h1]
      rfl
    · rw [List.getElem?_append_right (by rw [List.length_map]; omega), List.getElem?_replicate] at e
      split at e <;> simp at e
section
variable {R : Hp → Hp → Prop} {B : Bn} [rk : Rok B R] {K : PySem.W.Frag} {δ : List (Option PV)} {H H' : Hp}
theorem ev_call {α : Type} {args : α → List PyData} {pre : α → Prop} {res : α → PyData} {E : XK} {ta : TA} (a : α) (h : EvA R B ta δ H ((args a).map (im K B))) (hp : pre a) :
    Ev R B (tCall (pureSp K args pre res) [] E ta) δ H (im K B (res a)) := fun σ H1 r S Q k =>
  h σ H1 r S _ fun vs H2 r2 pr => by
    show pureSp K args pre res (vs ++ []) H2 Q E
    rw [List.append_nil]
    exact ⟨B, a, S.ok.mono (rk.rb r2), imAll_of_pAll pr, hp, fun v H3 e3 hv => k v H3 (rk.tr r2 (rk.ex e3)) hv⟩
end
/-! ### words -/
abbrev tI (ns : List Int) : PyData := .tuple (ns.map .int)
abbrev wd (b r : List Int) : PyData := .tuple [tI b, tI r]
def letterAt (b r : List Int) (k : Int) : Int := if k < b.length then b.getD k.toNat 0 else r.getD ((k - b.length) % r.length).toNat 0
abbrev spLetterAt (K : PySem.W.Frag) : Sp := pureSp (α := List Int × List Int × Int) K (fun a => [wd a.1 a.2.1, .int a.2.2]) (fun a => 0 ≤ a.2.2 ∧ a.2.1 ≠ []) (fun a => .int (letterAt a.1 a.2.1 a.2.2))
theorem atI_ints {ns : List Int} {i : Int} (h0 : 0 ≤ i) (h1 : i < ns.length) : atI (ns.map PyData.int) i = some (.int (ns.getD i.toNat 0)) := by
  have e : i = ((i.toNat : Nat) : Int) := by omega
  rw [e]
  refine atI_nat ?_
  have hl : i.toNat < ns.length := by omega
  rw [List.getElem?_map, List.getElem?_eq_getElem hl, Int.toNat_natCast]
  show some (PyData.int ns[i.toNat]) = _
  rw [List.getD_eq_getElem?_getD, List.getElem?_eq_getElem hl]
  rfl
end EL

set_option Elab.async false
set_option linter.all false
set_option maxRecDepth 100000
set_option maxHeartbeats 4000000
set_option autoImplicit false
namespace EL
open PySem PySem.Spec PyProof.Rows L2
/-! ### data without lists -/
mutual
def plain : PyData → Bool
  | .none => true
  | .bool _ => true
  | .int _ => true
  | .str _ => true
  | .tuple ds => plainAll ds
  | .list _ => false
  | .dict _ => false
def plainAll : List PyData → Bool
  | [] => true
  | d :: ds => plain d && plainAll ds
end
/-- tuples stay -/
structure TK (H H' : Hp) : Prop where
  tup : ∀ a xs, H a = some (.tup xs) → H' a = some (.tup xs)
  frz : ∀ a o u, H a = some (.frz o u) → H' a = some (.frz o u)
theorem RB.tk {B : Bn} {H H' : Hp} (r : RB B H H') : TK H H' := ⟨r.tup, r.frz⟩
theorem TK.sqT {K : PySem.W.Frag} {H H' : Hp} {a : Addr} {xs : List V} (r : TK H H') (h : SqT K H a xs) : SqT K H' a xs := by
  rcases h with (h | ⟨o, h⟩) | h
  · exact .inl (.inl (r.tup _ _ h))
  · exact .inl (.inr ⟨o, r.frz _ _ _ h⟩)
  · exact .inr h
theorem TK.upd {H : Hp} {a : Addr} {xs : List V} {o : HO} (h : H a = some (.lst xs)) : TK H (upd H a o) :=
  ⟨fun b ys e => by rw [upd_ne (ne_of e h (by intro z; cases z))]; exact e, fun b ob u e => by rw [upd_ne (ne_of e h (by intro z; cases z))]; exact e⟩
section
variable {K : PySem.W.Frag} {B B' : Bn} {H H' : Hp}
mutual
theorem im_tk (r : TK H H') : ∀ (d : PyData) (v : V), plain d = true → im K B d v H → im K B' d v H'
  | .none, _, _, h => h
  | .bool _, _, _, h => h
  | .int _, _, _, h => h
  | .str _, _, _, h => h
  | .tuple ds, _, hp, ⟨a, vs, e, s, q⟩ => ⟨a, vs, e, r.sqT s, imAll_tk r ds vs hp q⟩
  | .list ds, _, hp, _ => by cases hp
  | .dict _, _, _, h => h.elim
theorem imAll_tk (r : TK H H') : ∀ (ds : List PyData) (vs : List V), plainAll ds = true → imAll K B ds vs H → imAll K B' ds vs H'
  | [], _, _, h => h
  | d :: ds, _, hp, ⟨v, w, e, h1, h2⟩ => ⟨v, w, e, im_tk r d v (Bool.and_eq_true_iff.mp hp).1 h1, imAll_tk r ds w (Bool.and_eq_true_iff.mp hp).2 h2⟩
end
theorem plainAll_append : ∀ (ds es : List PyData), plainAll (ds ++ es) = (plainAll ds && plainAll es)
  | [], _ => rfl
  | d :: ds, es => by
    show (plain d && plainAll (ds ++ es)) = ((plain d && plainAll ds) && plainAll es)
    rw [plainAll_append, Bool.and_assoc]
theorem plainAll_ints : ∀ ns : List Int, plainAll (ns.map .int) = true
  | [] => rfl
  | _ :: ns => plainAll_ints ns
theorem plain_tI (ns : List Int) : plain (tI ns) = true := plainAll_ints ns
theorem plain_wd (b r : List Int) : plain (wd b r) = true := by
  show (plain (tI b) && (plain (tI r) && true)) = true
  rw [plain_tI, plain_tI]; rfl
theorem plainAll_iff : ∀ {ds : List PyData}, plainAll ds = true ↔ ∀ d ∈ ds, plain d = true
  | [] => by simp [plainAll]
  | d :: ds => by
    show (plain d && plainAll ds) = true ↔ _
    rw [Bool.and_eq_true_iff, plainAll_iff (ds := ds)]
    simp
end
/-- code that may make new objects and write to them -/
class Rmk (R : Hp → Hp → Prop) : Prop where
  new : ∀ {H H' p o}, R H H' → H p = none → R H (upd H' p o)
instance : Rmk Ex := ⟨fun r h => r.mut h⟩
instance {B : Bn} : Rmk (RB B) := ⟨fun {H H' p o} r h => ⟨fun a u n e => by rw [upd_ne (ne_of_none e h)]; exact r.keep a u n e, fun a u e => by rw [upd_ne (ne_of_none e h)]; exact r.tup a u e,
  fun a ob u e => by rw [upd_ne (ne_of_none e h)]; exact r.frz a ob u e, fun a b n => by
    by_cases q : a = p
    · subst q; exact absurd h n
    · rw [upd_ne q]; exact r.ban a b n⟩⟩

/-! ### slices -/
def cut {α : Type} (xs : List α) (lo hi : Option Int) : List α := (xs.drop (HT.sIx xs.length 0 lo)).take (HT.sIx xs.length xs.length hi - HT.sIx xs.length 0 lo)
theorem cutV_im {K : PySem.W.Frag} {B : Bn} {H : Hp} {ds : List PyData} {vs : List V} {lo hi : Option Int} (h : imAll K B ds vs H) : imAll K B (cut ds lo hi) (cutV vs lo hi) H := by
  unfold cut cutV
  rw [imAll_len h]
  exact imAll_take _ (imAll_drop _ h)
section
variable {R : Hp → Hp → Prop} {B : Bn} [rk : Rok B R] {K : PySem.W.Frag} {δ : List (Option PV)} {H : Hp} {te : TE} {tl th : TO} {lo hi : Option Int}
theorem eo_none : EvO R B tNoPart δ H none := fun σ H1 r S Q k => k H1 (rk.rf H1)
theorem eo_some {i : Int} (h : Ev R B te δ H (im K B (.int i))) : EvO R B (tPart te) δ H (some i) := fun σ H1 r S Q k => h σ H1 r S _ fun v H2 r2 e => ⟨i, e, k H2 r2⟩
theorem ev_slL {ds : List PyData} (h : Ev R B te δ H (im K B (.list ds))) (h1 : EvO R B tl δ H lo) (h2 : EvO R B th δ H hi) : Ev R B (tSl (rSlU K) te tl th) δ H (im K B (.list (cut ds lo hi))) := fun σ H1 r1 S Q k =>
  h σ H1 r1 S _ fun x Ha ra px => h1 σ Ha (rk.tr r1 ra) (S.mono (rk.rb ra)) _ fun Hb rb => h2 σ Hb (rk.tr (rk.tr r1 ra) rb) (S.mono (rk.rb (rk.tr ra rb))) _ fun Hc rc => by
    obtain ⟨a, vs, e, nb, s, q⟩ := im_st (rk.rb (rk.tr rb rc)) _ _ px
    exact .inl ⟨a, vs, e, s, fun p hp => k _ _ (rk.tr (rk.tr (rk.tr ra rb) rc) (rk.ex (Ex.new hp))) ⟨p, _, rfl, not_ban (S.ok.mono (rk.rb (rk.tr (rk.tr ra rb) rc))) hp, sqL_of upd_same, imAll_st (RB.of_ex (Ex.new hp)) _ _ (cutV_im q)⟩⟩
theorem ev_slT {ds : List PyData} (h : Ev R B te δ H (im K B (.tuple ds))) (h1 : EvO R B tl δ H lo) (h2 : EvO R B th δ H hi) : Ev R B (tSl (rSlU K) te tl th) δ H (im K B (.tuple (cut ds lo hi))) := fun σ H1 r1 S Q k =>
  h σ H1 r1 S _ fun x Ha ra px => h1 σ Ha (rk.tr r1 ra) (S.mono (rk.rb ra)) _ fun Hb rb => h2 σ Hb (rk.tr (rk.tr r1 ra) rb) (S.mono (rk.rb (rk.tr ra rb))) _ fun Hc rc => by
    obtain ⟨a, vs, e, s, q⟩ := im_st (rk.rb (rk.tr rb rc)) _ _ px
    refine .inr ⟨a, vs, e, s, fun z => ?_, fun _ p hp => k _ _ (rk.tr (rk.tr (rk.tr ra rb) rc) (rk.ex (Ex.new hp))) ⟨p, _, rfl, sqT_of upd_same, imAll_st (RB.of_ex (Ex.new hp)) _ _ (cutV_im q)⟩⟩
    refine k _ Hc (rk.tr (rk.tr ra rb) rc) ⟨a, vs, rfl, s, ?_⟩
    have := cutV_im (lo := lo) (hi := hi) q
    unfold cutV at this
    rw [z.1, z.2, List.drop_zero, Nat.sub_zero, List.take_length] at this
    exact this
end
theorem cut_upto {α : Type} {xs : List α} {n : Nat} : cut xs none (some (n : Int)) = xs.take n := by
  unfold cut
  rw [HT.sIx_none, HT.sIx_nat, List.drop_zero, Nat.sub_zero]
  rcases Nat.le_total n xs.length with h | h
  · rw [Nat.min_eq_left h]
  · rw [Nat.min_eq_right h, List.take_length, List.take_of_length_le h]
theorem cut_from {α : Type} {xs : List α} {n : Nat} : cut xs (some (n : Int)) none = xs.drop n := by
  unfold cut
  rw [HT.sIx_none, HT.sIx_nat]
  rcases Nat.le_total n xs.length with h | h
  · rw [Nat.min_eq_left h, List.take_of_length_le (by rw [List.length_drop]; omega)]
  · rw [Nat.min_eq_right h, Nat.sub_self, List.take_zero, List.drop_of_length_le h]
theorem RB.toEx {H H' : Hp} (r : RB (fun _ => False) H H') : Ex H H' := fun a o h => r.keep a o (fun z => z) h
/-! ### what is walked -/
section
variable (R : Hp → Hp → Prop) (B : Bn)
/-- n turns, at each the i-th is a Y i -/
def Src (wi : TI) (δ : List (Option PV)) (H : Hp) (n : Nat) (Y : Nat → PV) : Prop := ∀ σ H1, R H H1 → SD B H1 σ δ → ∀ Q : It → Hp → Prop,
  (∀ (J : It) (G : Hp → Prop) (H2 : Hp), R H1 H2 → Walk J n G (fun i Ha x Hb => Ex Ha Hb ∧ Y i x Hb) → (∀ H3, RB B H2 H3 → G H3) → Q J H2) → wi σ H1 Q
end
section
variable {R : Hp → Hp → Prop} {B : Bn} [rk : Rok B R] {K : PySem.W.Frag} {δ : List (Option PV)} {H : Hp} {ta tb : TE}
theorem getD_im {ds : List PyData} {vs : List V} {i : Nat} {v : V} (h : imAll K B ds vs H) (e : vs[i]? = some v) : im K B (ds.getD i .none) v H := by
  obtain ⟨d, e1, e2⟩ := imAll_getV h e
  rw [List.getD_eq_getElem?_getD, e1]
  exact e2
theorem src_range1 {n : Int} (h : Ev R B ta δ H (im K B (.int n))) (h1 : -(2 ^ 62) ≤ n) (h2 : n < 2 ^ 62) : Src R B (iRng1 (tCons ta tNil)) δ H n.toNat (fun i => im K B (.int i)) := fun σ H1 r S Q k =>
  h σ H1 r S _ fun v H2 r2 e => ⟨n, by rw [show v = _ from e], h1, h2, k _ (fun _ => True) H2 r2 (walk_range.mono (fun _ z => z) fun i Ha x Hb _ _ y => ⟨by rw [y.1]; exact Ex.refl _, by rw [y.2]; show V.int (0 + (i : Int)) = V.int _; rw [Int.zero_add]⟩) fun _ _ => trivial⟩
theorem src_range2 {a b : Int} (ha : Ev R B ta δ H (im K B (.int a))) (hb : Ev R B tb δ H (im K B (.int b))) (hc : -(2 ^ 62) ≤ a ∧ a < 2 ^ 62 ∧ -(2 ^ 62) ≤ b ∧ b < 2 ^ 62) : Src R B (iRng2 (tCons ta (tCons tb tNil))) δ H (b - a).toNat (fun i => im K B (.int (a + i))) := fun σ H1 r S Q k =>
  ha σ H1 r S _ fun v H2 r2 e => hb σ H2 (rk.tr r r2) (S.mono (rk.rb r2)) _ fun u H3 r3 e' => ⟨a, b, by rw [show v = _ from e, show u = _ from e'], hc, k _ (fun _ => True) H3 (rk.tr r2 r3) (walk_range.mono (fun _ z => z) fun i Ha x Hb _ _ y => ⟨by rw [y.1]; exact Ex.refl _, by rw [y.2]; rfl⟩) fun _ _ => trivial⟩
theorem src_tup {ds : List PyData} (h : Ev R B ta δ H (im K B (.tuple ds))) : Src R B (iSeqU K ta) δ H ds.length (fun i => im K B (ds.getD i .none)) := fun σ H1 r S Q k => .inr <|
  h σ H1 r S _ fun v H2 r2 ⟨a, vs, e, s, hv⟩ => ⟨a, e, ⟨vs, s⟩, by
    refine k _ (fun Hc => SqT K Hc a vs ∧ imAll K B ds vs Hc) H2 r2 ?_ fun H3 rb => ⟨rb.sqT s, imAll_st rb _ _ hv⟩
    rw [← imAll_len hv]
    exact walk_tup.mono (fun _ z => z.1) fun i Ha x Hb _ g y => ⟨by rw [y.1]; exact Ex.refl _, by rw [y.1]; exact getD_im g.2 y.2⟩⟩
theorem src_lst {ds : List PyData} (h : Ev R B ta δ H (im K B (.list ds))) : Src R B (iList K ta) δ H ds.length (fun i => im K B (ds.getD i .none)) := fun σ H1 r S Q k =>
  h σ H1 r S _ fun v H2 r2 ⟨a, vs, e, nb, s, hv⟩ => ⟨a, e, ⟨vs, s⟩, by
    refine k _ (fun Hc => SqL K Hc a vs ∧ imAll K B ds vs Hc) H2 r2 ?_ fun H3 rb => ⟨rb.sqL nb s, imAll_st rb _ _ hv⟩
    rw [← imAll_len hv]
    exact walk_list.mono (fun _ z => z.1) fun i Ha x Hb _ g y => ⟨by rw [y.1]; exact Ex.refl _, by rw [y.1]; exact getD_im g.2 y.2⟩⟩
theorem src_lstU {ds : List PyData} (h : Ev R B ta δ H (im K B (.list ds))) : Src R B (iSeqU K ta) δ H ds.length (fun i => im K B (ds.getD i .none)) := fun σ H1 r S Q k => .inl (src_lst h σ H1 r S Q k)
/-- a for loop -/
theorem st_for {wi : TI} {g : TG} {tb : TS} {n : Nat} {Y : Nat → PV} {D : Ends} {σ : L2.St} (S : SD B H σ δ) (hs : Src R B wi δ H n Y)
    (k : ∀ H0, R H H0 → SD B H0 σ δ → ∃ I : Nat → L2.St → Hp → Prop, I 0 σ H0 ∧ (∀ i s Hc, I i s Hc → RB B H0 Hc) ∧
      (∀ i x s Ha Hb, i < n → I i s Ha → Ex Ha Hb → Y i x Hb → g x s Hb fun σ2 H2 => tb { D with nx := I (i + 1), ct := I (i + 1), bk := D.nx } σ2 H2) ∧ ∀ s Hc, I n s Hc → D.nx s Hc) : tFor wi g tb D σ H :=
  hs σ H (rk.rf H) S _ fun J G H2 r2 w hG => by
    obtain ⟨I, i0, ir, it, id⟩ := k H2 r2 (S.mono (rk.rb r2))
    exact for_it w I i0 (fun i s Hc _ p => hG Hc (ir i s Hc p)) (fun i x s Ha Hb hi p y => it i x s Ha Hb hi p y.1 y.2) id
end
/-! ### list comprehensions, of one name -/
section
variable {R : Hp → Hp → Prop} {B : Bn} [rk : Rok B R] [rm : Rmk R] {K : PySem.W.Frag} {δ : List (Option PV)} {H : Hp}
/-- a list that was not there in H -/
def newL (K : PySem.W.Frag) (B : Bn) (H : Hp) (ds : List PyData) : PV := fun v Hc => ∃ a vs, v = .ref a ∧ H a = none ∧ ¬ B a ∧ Hc a = some (.lst vs) ∧ imAll K B ds vs Hc
instance {H : Hp} {ds : List PyData} : Stb B (newL K B H ds) := ⟨fun r ⟨a, vs, e, n, nb, h, q⟩ => ⟨a, vs, e, n, nb, r.keep _ _ nb h, imAll_st r _ _ q⟩⟩
theorem newL.im {H0 Hc : Hp} {ds : List PyData} {v : V} (h : newL K B H0 ds v Hc) : im K B (.list ds) v Hc := by
  obtain ⟨a, vs, e, n, nb, h, q⟩ := h
  exact ⟨a, vs, e, nb, sqL_of h, q⟩
theorem RB.fresh {H H' : Hp} {a : Addr} (r : RB B H H') (n : H' a = none) : H a = none := by
  cases e : H a with
  | none => rfl
  | some o =>
    rcases Classical.em (B a) with b | b
    · exact absurd n (r.ban a b (by rw [e]; exact fun z => nomatch z))
    · rw [r.keep a o b e] at n; cases n
theorem ev_lstN {ta : TA} {ds : List PyData} (h : EvA R B ta δ H (ds.map (EL.im K B))) (hl : ds.length ≤ sizeLine) : Ev R B (tLst ta) δ H (newL K B H ds) := fun σ H1 r1 S Q k =>
  h σ H1 r1 S _ fun vs H2 r2 pr => by
    have hv := imAll_of_pAll pr
    refine ⟨by rw [imAll_len hv]; exact hl, fun a ha => k _ _ (rk.tr r2 (rk.ex (Ex.new ha))) ⟨a, vs, rfl, RB.fresh (rk.rb (rk.tr r1 r2)) ha, not_ban (S.ok.mono (rk.rb r2)) ha, upd_same, imAll_st (RB.of_ex (Ex.new ha)) _ _ hv⟩⟩
theorem ev_lstV {ta : TA} {ps : List PV} (h : EvA R B ta δ H ps) (hl : ps.length ≤ sizeLine) (hst : ∀ vs Ha Hb, Ex Ha Hb → pAll ps vs Ha → pAll ps vs Hb) :
    Ev R B (tLst ta) δ H (fun v Hc => ∃ a vs, v = .ref a ∧ H a = none ∧ ¬ B a ∧ Hc a = some (.lst vs) ∧ pAll ps vs Hc) := fun σ H1 r1 S Q k =>
  h σ H1 r1 S _ fun vs H2 r2 pr => by
    have len : ∀ (ps : List PV) (vs : List V), pAll ps vs H2 → vs.length = ps.length := by
      intro ps
      induction ps with
      | nil => intro vs h; rw [show vs = [] from h]; rfl
      | cons p ps ih => intro vs ⟨v, r, e, _, h⟩; rw [e, List.length_cons, List.length_cons, ih r h]
    exact ⟨by rw [len _ _ pr]; exact hl, fun a ha => k _ _ (rk.tr r2 (rk.ex (Ex.new ha))) ⟨a, vs, rfl, RB.fresh (rk.rb (rk.tr r1 r2)) ha, not_ban (S.ok.mono (rk.rb r2)) ha, upd_same, hst vs _ _ (Ex.new ha) pr⟩⟩
theorem ev_lcN {wi : TI} {tt : TT} {te : TE} {v n : Nat} {Y : Nat → PV} [∀ i, Stb B (Y i)] (Acc : Nat → List PyData → Prop) (hs : Src R B wi δ H n Y) (hn : n ≤ sizeLine) (h0 : Acc 0 [])
    (turn : ∀ i ds Hc, i < n → Acc i ds → R H Hc → ∃ C : Bool → Prop, EvTx R B tt ((δ.set v none).set v (some (Y i))) Hc C ∧ (C false → Acc (i + 1) ds) ∧ (C true → ∀ Hd, R Hc Hd → ∃ P : PyData → Prop, Ev R B te ((δ.set v none).set v (some (Y i))) Hd (exP P (im K B)) ∧ ∀ d, P d → plain d = true ∧ Acc (i + 1) (ds ++ [d]))) :
    Ev R B (tLc wi (gName v) tt te [v]) δ H (exP (Acc n) fun ds => newL K B H ds) := fun σ H1 r1 S Q k =>
  hs σ H1 r1 S _ fun J G H2 r2 w hG D hD => by
    have nB : ¬ B D := not_ban (S.ok.mono (rk.rb r2)) hD
    have hD1 : Ex H2 (upd H2 D (.lst [])) := Ex.new hD
    refine lc_it w (fun i Hc => R H2 Hc ∧ ∃ ds vs, Hc D = some (.lst vs) ∧ imAll K B ds vs Hc ∧ plainAll ds = true ∧ ds.length ≤ i ∧ Acc i ds) ⟨rk.ex hD1, [], [], upd_same, rfl, rfl, Nat.le_refl _, h0⟩ (fun i Hc _ p => hG Hc (rk.rb p.1)) (fun i x Ha Hb hi p y => ?_) fun Hc p => ?_
    · obtain ⟨ra, ds, vs, eD, hv, hp, hl, acc⟩ := p
      obtain ⟨ye, yy⟩ := y
      have rb' : R H2 Hb := rk.tr ra (rk.ex ye)
      have Sb : SD B Hb (σ.set v none) (δ.set v none) := ((S.mono (rk.rb r2)).mono (rk.rb rb')).unset
      have S2 : SD B Hb ((σ.set v none).set v (some x)) ((δ.set v none).set v (some (Y i))) := Sb.set yy
      refine ⟨by show (((σ.set v none).set v (some x)).set v none) = σ.set v none; rw [List.set_set, List.set_set], ?_⟩
      obtain ⟨C, ht, hf, hT⟩ := turn i ds Hb hi acc (rk.tr r1 (rk.tr r2 rb'))
      refine ht _ Hb (rk.rf Hb) S2 _ fun b H3 cb r3 => ?_
      cases b with
      | false => exact ⟨rk.tr rb' r3, ds, vs, (rk.rb r3).keep _ _ nB (ye _ _ eD), imAll_st (rk.rb r3) _ _ (imAll_st (RB.of_ex ye) _ _ hv), hp, Nat.le_succ_of_le hl, hf cb⟩
      | true =>
        obtain ⟨P, he, hP⟩ := hT cb H3 r3
        refine he _ H3 (rk.rf H3) (S2.mono (rk.rb r3)) _ fun z H4 r4 ⟨d, pd, hz⟩ => ?_
        obtain ⟨pl, acc'⟩ := hP d pd
        have r34 : R Hb H4 := rk.tr r3 r4
        have e4 : H4 D = some (.lst vs) := (rk.rb r34).keep _ _ nB (ye _ _ eD)
        have hv4 : imAll K B ds vs H4 := imAll_st (rk.rb r34) _ _ (imAll_st (RB.of_ex ye) _ _ hv)
        refine ⟨vs, e4, ?_, rm.new (rk.tr rb' r34) hD, ds ++ [d], vs ++ [z], upd_same, ?_, ?_, ?_, acc'⟩
        · rw [imAll_len hv4]; omega
        · exact imAll_append (imAll_tk (TK.upd e4) _ _ hp hv4) ⟨z, [], rfl, im_tk (TK.upd e4) _ _ pl hz, rfl⟩
        · rw [plainAll_append, hp]; show (true && (plain d && true)) = true; rw [pl]; rfl
        · rw [List.length_append]; show ds.length + 1 ≤ i + 1; omega
    · obtain ⟨ra, ds, vs, eD, hv, hp, hl, acc⟩ := p
      exact k _ Hc (rk.tr r2 ra) ⟨ds, acc, D, vs, rfl, RB.fresh (rk.rb (rk.tr r1 r2)) hD, nB, eD, hv⟩
theorem ev_lc {wi : TI} {tt : TT} {te : TE} {v n : Nat} {Y : Nat → PV} [∀ i, Stb B (Y i)] (Acc : Nat → List PyData → Prop) (hs : Src R B wi δ H n Y) (hn : n ≤ sizeLine) (h0 : Acc 0 [])
    (turn : ∀ i ds Hc, i < n → Acc i ds → R H Hc → ∃ C : Bool → Prop, EvTx R B tt ((δ.set v none).set v (some (Y i))) Hc C ∧ (C false → Acc (i + 1) ds) ∧ (C true → ∀ Hd, R Hc Hd → ∃ P : PyData → Prop, Ev R B te ((δ.set v none).set v (some (Y i))) Hd (exP P (im K B)) ∧ ∀ d, P d → plain d = true ∧ Acc (i + 1) (ds ++ [d]))) :
    Ev R B (tLc wi (gName v) tt te [v]) δ H (exP (Acc n) fun ds => im K B (.list ds)) := (ev_lcN Acc hs hn h0 turn).conv fun v H1 _ ⟨ds, a, q⟩ => ⟨ds, a, q.im⟩
theorem etx_yes : EvTx R B tYes δ H (· = true) := fun σ H1 r S Q k => k true H1 rfl (rk.rf H1)
theorem etx_of {tt : TT} {b : Bool} (h : EvT R B tt δ H b) : EvTx R B tt δ H (· = b) := fun σ H1 r S Q k => h σ H1 r S Q fun H2 r2 => k b H2 rfl r2
theorem ev_one {te : TE} {d : PyData} (h : Ev R B te δ H (im K B d)) : Ev R B te δ H (exP (· = d) (im K B)) := h.conv fun v H1 _ pv => ⟨d, rfl, pv⟩
end
end EL

set_option Elab.async false
set_option linter.all false
set_option maxRecDepth 100000
set_option maxHeartbeats 4000000
set_option autoImplicit false
namespace EL
open PySem PySem.Spec PyProof.Rows L2
/-! ### the law's hand -/
abbrev big61 : Int := 2305843009213693951
structure HandOk (h l : Addr) (H : Hp) : Prop where
  ne : h ≠ l
  top : ∃ seed : Int, H h = some (.lst [.ref l, .int seed]) ∧ 0 ≤ seed ∧ seed < big61
  cells : ∃ cs : List Int, H l = some (.lst (cs.map .int)) ∧ (∀ c ∈ cs, 0 ≤ c) ∧ cs.length ≤ 63
def hB (h l : Addr) : Bn := fun a => a = h ∨ a = l
structure Rh (h l : Addr) (H H' : Hp) : Prop where
  rb : RB (hB h l) H H'
  ok : HandOk h l H → HandOk h l H'
class Has (B : Bn) (h l : Addr) : Prop where
  h1 : B h
  h2 : B l
instance {h l : Addr} : Has (hB h l) h l := ⟨.inl rfl, .inr rfl⟩
theorem HandOk.ex {h l : Addr} {H H' : Hp} (e : Ex H H') (o : HandOk h l H) : HandOk h l H' := by
  obtain ⟨n, ⟨s, e1, b1⟩, ⟨cs, e2, b2⟩⟩ := o
  exact ⟨n, ⟨s, e _ _ e1, b1⟩, ⟨cs, e _ _ e2, b2⟩⟩
instance {B : Bn} {h l : Addr} [hs : Has B h l] : Rok B (Rh h l) where
  rf := fun H => ⟨RB.refl H, id⟩
  tr := fun a b => ⟨a.rb.trans b.rb, fun o => b.ok (a.ok o)⟩
  ex := fun e => ⟨RB.of_ex e, fun o => o.ex e⟩
  rb := fun r => r.rb.sub fun a z => by
    rcases z with rfl | rfl
    · exact hs.h1
    · exact hs.h2
theorem HandOk.upd {h l p : Addr} {H : Hp} {o : HO} (k : HandOk h l H) (n1 : h ≠ p) (n2 : l ≠ p) : HandOk h l (upd H p o) := by
  obtain ⟨n, ⟨s, e1, b1⟩, ⟨cs, e2, b2⟩⟩ := k
  exact ⟨n, ⟨s, by rw [upd_ne n1]; exact e1, b1⟩, ⟨cs, by rw [upd_ne n2]; exact e2, b2⟩⟩
theorem HandOk.at1 {h l : Addr} {H : Hp} (k : HandOk h l H) : H h ≠ none := by
  obtain ⟨n, ⟨s, e1, b1⟩, _⟩ := k
  rw [e1]; exact fun z => nomatch z
theorem HandOk.at2 {h l : Addr} {H : Hp} (k : HandOk h l H) : H l ≠ none := by
  obtain ⟨n, _, ⟨cs, e2, b2⟩⟩ := k
  rw [e2]; exact fun z => nomatch z
instance {h l : Addr} : Rmk (Rh h l) := ⟨fun {H H' p o} r n => ⟨Rmk.new r.rb n, fun k => (r.ok k).upd (fun e => k.at1 (e ▸ n)) fun e => k.at2 (e ▸ n)⟩⟩
theorem HandOk.bok {h l : Addr} {H : Hp} (k : HandOk h l H) : BOk (hB h l) H := fun a z => by
  rcases z with rfl | rfl
  · exact k.at1
  · exact k.at2
/-- an int of which C is so -/
def intP (C : Int → Prop) : PV := fun v _ => ∃ i, C i ∧ v = .int i
instance {B : Bn} {C : Int → Prop} : Stb B (intP C) := ⟨fun _ h => h⟩
def spPick : Sp := fun vs H Q _ => ∃ (h l : Addr) (m : Int), vs = [.ref h, .int m] ∧ HandOk h l H ∧ 1 ≤ m ∧ m < 1073741824 ∧ ∀ d H', 0 ≤ d → d < m → Rh h l H H' → Q (.int d) H'
def spHand (K : PySem.W.Frag) : Sp := fun vs H Q _ => ∃ (a : Addr) (ns : List Int), vs = [.ref a] ∧ SqL K H a (ns.map .int) ∧ ns.length ≤ 63 ∧ ∀ h l H', Ex H H' → HandOk h l H' → H h = none → H l = none → Q (.ref h) H'
section
variable {B : Bn} {h l : Addr} [hs : Has B h l] {K : PySem.W.Frag} {δ : List (Option PV)} {H : Hp} {ta tb : TE} {E : XK}
theorem ev_pick {N : Int → Prop} (hk : HandOk h l H) (ha : Ev (Rh h l) B ta δ H (isP (.ref h))) (hb : Ev (Rh h l) B tb δ H (intP N)) (hN : ∀ m, N m → 1 ≤ m ∧ m < 1073741824) :
    Ev (Rh h l) B (tCall spPick [] E (tCons ta (tCons tb tNil))) δ H (intP fun d => ∃ m, N m ∧ 0 ≤ d ∧ d < m) := fun σ H1 r1 S Q k =>
  ha σ H1 r1 S _ fun x H2 r2 ex => hb σ H2 (Rok.tr B r1 r2) (S.mono (Rok.rb r2)) _ fun y H3 r3 ⟨m, nm, ey⟩ =>
    ⟨h, l, m, by rw [show x = _ from ex, ey]; rfl, ((r1.ok hk |> r2.ok) |> r3.ok), (hN m nm).1, (hN m nm).2, fun d H4 d0 d1 r4 => k _ H4 (Rok.tr B (Rok.tr B r2 r3) r4) ⟨d, ⟨m, nm, d0, d1⟩, rfl⟩⟩
theorem ev_pickI {m : Int} (hk : HandOk h l H) (ha : Ev (Rh h l) B ta δ H (isP (.ref h))) (hb : Ev (Rh h l) B tb δ H (im K B (.int m))) (h1 : 1 ≤ m) (h2 : m < 1073741824) :
    Ev (Rh h l) B (tCall spPick [] E (tCons ta (tCons tb tNil))) δ H (intP fun d => 0 ≤ d ∧ d < m) :=
  (ev_pick (N := (· = m)) hk ha (hb.conv fun v H1 _ e => ⟨m, rfl, e⟩) fun m' e => by subst e; exact ⟨h1, h2⟩).conv fun v H1 _ ⟨d, ⟨m', e, h0, h3⟩, ev⟩ => by subst e; exact ⟨d, ⟨h0, h3⟩, ev⟩
end
section
variable {R : Hp → Hp → Prop} {B : Bn} [rk : Rok B R] {K : PySem.W.Frag} {δ : List (Option PV)} {H : Hp} {ta tb : TE} {C D : Int → Prop}
theorem ev_addN (ha : Ev R B ta δ H (intP C)) (hb : Ev R B tb δ H (intP D)) : Ev R B (tOp (rAddU K) ta tb) δ H (intP fun k => ∃ i j, C i ∧ D j ∧ k = i + j) :=
  ev_op ha hb fun x y H1 _ _ ⟨i, c, hx⟩ ⟨j, d, hy⟩ Q k => .inl ⟨i, j, hx, hy, k _ H1 (Ex.refl H1) ⟨i + j, ⟨i, j, c, d, rfl⟩, rfl⟩⟩
theorem ev_intN {i : Int} (ha : Ev R B ta δ H (im K B (.int i))) : Ev R B ta δ H (intP (· = i)) := ha.conv fun v _ _ e => ⟨i, rfl, e⟩
theorem Ev.intm (ha : Ev R B ta δ H (intP C)) (h : ∀ i, C i → D i) : Ev R B ta δ H (intP D) := ha.conv fun v _ _ ⟨i, c, e⟩ => ⟨i, h i c, e⟩
theorem Ev.intx (ha : Ev R B ta δ H (intP C)) : Ev R B ta δ H (exP C fun i => im K B (.int i)) := ha.conv fun v _ _ ⟨i, c, e⟩ => ⟨i, c, e⟩
end
end EL

set_option Elab.async false
set_option linter.all false
set_option maxRecDepth 100000
set_option maxHeartbeats 4000000
set_option autoImplicit false
namespace EL
open PySem PySem.Spec PyProof.Rows L2
section
variable {R : Hp → Hp → Prop} {B : Bn} [rk : Rok B R] {K : PySem.W.Frag} {δ : List (Option PV)} {H : Hp} {ta tb to ti te : TE} {D : Ends} {σ : L2.St} {p : PV}
/-- an item of a list that is known at its address -/
theorem ev_ixE {a : Addr} {vs : List V} {i : Int} {v : V} (ha : Ev Ex B ta δ H (isP (.ref a))) (hb : Ev Ex B tb δ H (im K B (.int i))) (hl : H a = some (.lst vs)) (e : atI vs i = some v) : Ev Ex B (tOp (rIx K) ta tb) δ H (isP v) :=
  ev_op ha hb fun x y H1 r1 _ hx hy Q k => .inl ⟨a, vs, i, v, hx, hy, sqL_of (r1 _ _ hl), e, k v H1 (Ex.refl H1) rfl⟩
theorem Ev.lst {a : Addr} {vs : List V} {ds : List PyData} (ha : Ev Ex (fun _ => False) ta δ H (isP (.ref a))) (hl : H a = some (.lst vs)) (hv : imAll K (fun _ => False) ds vs H) : Ev Ex (fun _ => False) ta δ H (im K (fun _ => False) (.list ds)) :=
  ha.conv fun v H1 r1 e => ⟨a, vs, e, fun z => z, sqL_of (r1 _ _ hl), imAll_st (RB.of_ex r1) _ _ hv⟩
/-- a method of a list, as a statement -/
theorem st_lmeth {r : V → List V → Hp → VK → Prop} {ta : TA} {ps : List PV} {l : Addr} (S : SD B H σ δ) (ho : Ev R B to δ H (isP (.ref l))) (ha : EvA R B ta δ H ps) (ty : ∀ H1, R H H1 → ∃ xs, H1 l = some (.lst xs))
    (k : ∀ vs H2, R H H2 → SD B H2 σ δ → pAll ps vs H2 → r (.ref l) vs H2 (fun _ H3 => D.nx σ H3)) : tDrop (tBM K "list" r to ta) D σ H :=
  ho σ H (rk.rf H) S _ fun x H1 r1 e => by
    cases (show x = _ from e)
    obtain ⟨xs, e1⟩ := ty H1 r1
    exact ⟨.inl ⟨rfl, xs, sqL_of e1⟩, ha σ H1 r1 (S.mono (rk.rb r1)) _ fun vs H2 r2 pv => k vs H2 (rk.tr r1 r2) (S.mono (rk.rb (rk.tr r1 r2))) pv⟩
theorem st_setitem [Stb B p] {l : Addr} {i : Int} (S : SD B H σ δ) (he : Ev R B te δ H p) (ho : Ev R B to δ H (isP (.ref l))) (hi : Ev R B ti δ H (im K B (.int i)))
    (k : ∀ v H2, R H H2 → SD B H2 σ δ → p v H2 → ∃ xs j, H2 l = some (.lst xs) ∧ ixN xs.length i = some j ∧ D.nx σ (upd H2 l (.lst (xs.set j v)))) : tAsg te (gSub to ti rSetL) D σ H :=
  he σ H (rk.rf H) S _ fun v H1 r1 pv => ho σ H1 r1 (S.mono (rk.rb r1)) _ fun x H2 r2 e => hi σ H2 (rk.tr r1 r2) (S.mono (rk.rb (rk.tr r1 r2))) _ fun y H3 r3 e' => by
    cases (show x = _ from e); cases (show y = _ from e')
    obtain ⟨xs, j, h1, h2, h3⟩ := k v H3 (rk.tr (rk.tr r1 r2) r3) (S.mono (rk.rb (rk.tr (rk.tr r1 r2) r3))) (Stb.st (rk.rb (rk.tr r2 r3)) pv)
    exact ⟨l, xs, i, j, rfl, rfl, h1, h2, h3⟩
/-- while -/
theorem st_while {tc : TT} {tb : TS} (W : Nat → L2.St → Hp → Prop) (m0 : Nat) (h0 : W m0 σ H)
    (hs : ∀ m s Hc, W m s Hc → ∃ δ b, SD B Hc s δ ∧ EvT R B tc δ Hc b ∧ (b = true → ∀ H1, R Hc H1 → SD B H1 s δ → tb { D with nx := fun s' H' => ∃ m', m' < m ∧ W m' s' H', ct := fun s' H' => ∃ m', m' < m ∧ W m' s' H', bk := D.nx } s H1) ∧ (b = false → ∀ H1, R Hc H1 → SD B H1 s δ → D.nx s H1)) : tWhile tc tb D σ H := by
  refine ⟨W, ⟨m0, h0⟩, fun m s Hc w => ?_⟩
  obtain ⟨δ, b, S, ht, k1, k2⟩ := hs m s Hc w
  refine ht s Hc (rk.rf Hc) S _ fun H1 r1 => ?_
  cases b with
  | true => exact ⟨_, fun s' H' z => z, k1 rfl H1 r1 (S.mono (rk.rb r1))⟩
  | false => exact k2 rfl H1 r1 (S.mono (rk.rb r1))
end
section
variable {B : Bn} {K : PySem.W.Frag} {δ : List (Option PV)} {H : Hp} {ta : TE}
end
theorem canLayAll_ints : ∀ ns : List Int, PyData.canLayAll0 (ns.map .int) = true
  | [] => by rfl
  | n :: ns => by
    have := canLayAll_ints ns
    simp only [List.map_cons, PyData.canLayAll0, PyData.canLay0, this, Bool.and_self]
theorem depthAll_ints : ∀ ns : List Int, PyData.depthAll (ns.map .int) ≤ 1
  | [] => by simp [PyData.depthAll]
  | n :: ns => by
    have := depthAll_ints ns
    simp only [List.map_cons, PyData.depthAll, PyData.depth]
    omega
theorem shaped_ints (ns : List Int) : SeqAt.shaped (.list (ns.map .int)) = true := by
  unfold SeqAt.shaped
  have h1 := canLayAll_ints ns
  have h2 := depthAll_ints ns
  simp only [PyData.canLay0, h1, PyData.depth, Bool.true_and]
  exact decide_eq_true (by omega)
theorem shaped_int (i : Int) : SeqAt.shaped (.int i) = true := by
  unfold SeqAt.shaped
  simp [PyData.canLay0, PyData.depth]
theorem eqv_nil {ds : List PyData} : PyData.eqv (.list ds) (.list []) = ds.isEmpty := by
  cases ds <;> simp [PyData.eqv, PyData.eqvAll]
theorem RB.updB {B : Bn} {H0 Hc : Hp} {a : Addr} {xs : List V} {o : HO} (r : RB B H0 Hc) (b : B a) (e : Hc a = some (.lst xs)) : RB B H0 (upd Hc a o) :=
  r.trans ⟨fun c u n z => by rw [upd_ne (show c ≠ a from fun q => n (by rw [q]; exact b))]; exact z, (TK.upd e).tup, (TK.upd e).frz, fun c _ n => by
    by_cases q : c = a
    · subst q; rw [upd_same]; exact fun z => nomatch z
    · rw [upd_ne q]; exact n⟩
theorem ev_neNil {B : Bn} {K : PySem.W.Frag} {δ : List (Option PV)} {H : Hp} {ta : TE} {a : Addr} {cs : List Int} (ha : Ev Ex B ta δ H (isP (.ref a))) (hl : H a = some (.lst (cs.map .int))) :
    Ev Ex B (tOp (rNeU K) ta (tLst tNil)) δ H (im K B (.bool (!cs.isEmpty))) :=
  ev_op ha (ev_lst (K := K) (ds := []) ea_nil (Nat.zero_le _)) fun x y H1 r1 _ hx hy Q k => .inl ⟨.list (cs.map .int), .list [], by
    cases (show x = _ from hx)
    exact .lst (sqL_of (r1 _ _ hl)) (imAll_dp (K := K) (B := fun _ => False) _ _ (imAll_ints.mpr rfl)), im_dp _ _ hy, shaped_ints cs, by decide +kernel, k _ H1 (Ex.refl H1) (by show V.bl _ = V.bl _; rw [eqv_nil]; cases cs <;> rfl)⟩
end EL

set_option Elab.async false
set_option linter.all false
set_option maxRecDepth 100000
set_option maxHeartbeats 4000000
set_option autoImplicit false
namespace EL
open PySem PySem.Spec PyProof.Rows L2
/-! ### defs called where no repr is under way -/
structure FnG (P : Program) (w : World) (K : PySem.W.Frag) (mg : Str → Option Value) (bs : Heap) (CX : CXT) (k : Nat) (f : Addr) (fd : FuncData) (ps : List Str) (sp : Sp) : Prop where
  len : ∀ vs H Q E, sp vs H Q E → vs.length = ps.length
  run : ∀ (A : Around) (o : List Env) (s : Shared) (H : Hp) (ar : Args) (us : List Value) (vs : List V) (Q : VK) (E : XK),
    A.guards = some [] → Room k A → Env0 P w K mg bs A o s H → BindsTo s fd ar (ps.zip us) → Vals vs us → sp vs H Q E →
    codeAny (model P w) A (.call (.ref f) ar) (CR CX o P w H s Q E) s
theorem FnG.of {P : Program} {w : World} {K : PySem.W.Frag} {mg : Str → Option Value} {bs : Heap} {CX : CXT} {k : Nat} {f : Addr} {fd : FuncData} {ps : List Str} {sp : Sp}
    (F : FnOk P w K mg bs CX k f fd ps sp) : FnG P w K mg bs CX k f fd ps sp := ⟨F.len, fun A o s H ar us vs Q E _ => F.run A o s H ar us vs Q E⟩
section
variable {P : Program} {w : World} {K : PySem.W.Frag} {mg : Str → Option Value} {bs : Heap} {CX : CXT} {x qu : Str} {pa : Arguments} {bo : List Stmt} {sc : Scope} {dv : List V} {kw : List (Str × V)} {f : Addr} {fd : FuncData}
theorem okG {N ps : List Str} {k : Nat} {sp : Sp} (F : FunD K x qu pa bo sc dv kw f fd) (S : FnScope N ps sc)
    (hlen : ∀ vs H Q E, sp vs H Q E → vs.length = ps.length)
    (hb : ∀ (cv : Value) (A : Around) (o : List Env) (s : Shared) (H : Hp) (vs : List V) (Q : VK) (E : XK), A.guards = some [] →
      Room k (A.deeper (envOfC qu sc s.heap.objs.size f cv)) → sp vs H Q E →
      ∃ t, PSs (cxOf CX P w K mg bs N qu sc f cv A o s H E) bo t ∧ t ⟨fun _ H' => Q .non H', Q, fun _ _ => False, fun _ _ => False⟩ (start N vs) H) :
    FnG P w K mg bs CX (k + 1) f fd ps sp := by
  obtain ⟨oc, od, dV, kV, doc, pm, an, cv, ct, osl, rfl, hlk, hcd, _, _⟩ := F.ex
  refine ⟨hlen, fun A o s H ar us vs Q E gd rm en bd rv hsp => ?_⟩
  have hKin : K.In s.heap := en.mod.kin.keeps fun c z q => (en.bs c z q).1
  have hLim : s.heap.NoLimit := en.mod.nolimit.keeps fun c z q => (en.bs c z q).1
  have hkd : ∀ y ∈ ps.zip us, sc.names.lookup y.1 = some .local ∨
      (sc.names.lookup y.1 = some .cell ∧ ((cellsFrom (s.heap.objs.size + 1) sc.names []).lookup y.1).isSome = true) := by
    rintro ⟨nm, vl⟩ hy
    rcases S.par nm (List.of_mem_zip hy).1 with z | z
    · left; exact z
    · right; exact ⟨z, PySem.W.cellsFrom_some _ _ _ (.inl z)⟩
  refine codeAny_call_function rm.depth (hKin _ _ hlk) rfl S.co S.gen rfl (PySem.W.codeRec_of hKin hcd) (bd _ _ _ _ ?_)
  refine wpAny_newFunctionEnv_cells S.kind hkd fun ev hev s2 xx => ?_
  subst hev
  refine ⟨hLim.keeps xx.toInCall.keep, codeAny_func ?_⟩
  obtain ⟨t, ht, hq⟩ := hb cv A o s H vs Q E gd (rm.deeper _) hsp
  have II : Inv (cxOf CX P w K mg bs N qu sc f cv A o s H E) [] (start N vs) H s2 := inv_start S rm.hd en (hlen _ _ _ _ hsp) rv xx
  refine wpAny_mono (ht.run [] s2 (start N vs) H _ II hq) (fun fl s3 hs => ?_) fun e s3 hs => hs
  cases fl with
  | ret u => obtain ⟨v, σ', H', J, r2, z⟩ := hs; exact ⟨v, H', J.os, J.bare, J.base, J.hok, r2, z⟩
  | next => obtain ⟨σ', H', J, z⟩ := hs; exact ⟨.non, H', J.os, J.bare, J.base, J.hok, rfl, z⟩
  | brk => obtain ⟨_, _, _, z⟩ := hs; cases z
  | cont => obtain ⟨_, _, _, z⟩ := hs; cases z
end
section
variable {X : Cx} {CX : CXT} {k : Nat} {f : Addr} {fd : FuncData} {ps : List Str} {sp : Sp} {E : XK} {x : Str} {p pos : Pos} {e : Expr} {es : List Expr} {t : TA}
theorem pe_callG (F : FnG X.prog X.w X.K X.mg X.base CX k f fd ps sp) (gd : X.A.guards = some []) (rm : Room k X.A) (hg : Gl X x) (hm : X.mg x = some (.ref f)) (hk : PySem.W.keepIn X.K (.ref f) = true)
    (bd : Binds X.K fd ps []) (hx : Passes CX X E) (ha : PA X (e :: es) t) (d1 : (x == ("__debug__" : Str)) = false := by decide)
    (d2 : starEach (e :: es) X.env = (false, eval e X.env) :: starEach es X.env := by rfl) (d3 : (backTo pos (starEach es X.env)).any (·.1) = false := by rfl) :
    PE X (.Call (.Name x p) (e :: es) [] pos) (tCall sp [] E t) := by
  refine ⟨fun pins s σ H Q I h => wpAny_Call_Name_kw (ld_glob I hg hm ?_ d1)⟩
  refine PySem.W.callWith_K (h₀ := X.base) I.ok.mod.kin hk (thn (ha.run pos pins s σ H _ I h) ?_) d2 d3
  rintro us s1 ⟨vs, H1, I1, rv, q⟩
  refine ⟨I1.kIn, ?_⟩
  have q : sp (vs ++ []) H1 Q E := q
  rw [List.append_nil] at q
  have hl : (us ++ []).length = ps.length := by rw [List.append_nil, ← rv.length]; exact F.len _ _ _ _ q
  have bb := bd s1 us I1.kIn hl
  rw [List.append_nil] at bb
  refine wpAny_call (codeAny_mono (F.run X.A X.stack s1 H1 ⟨us, []⟩ us vs Q E gd rm I1.env0 bb rv q) fun r s2 hq => ?_)
  match r, hq with
  | .error er, hq => exact hx pins σ H1 s1 er s2 I1 hq
  | .ok (.ret u), hq => exact I1.after hq
/-- repr of data -/
def rReprD (K : PySem.W.Frag) : List V → Hp → VK → Prop := fun xs H Q => ∃ v d, xs = [v] ∧ Dp K H v d ∧ d.showable = true ∧ d.hasDict = false ∧ d.depth ≤ 64 ∧ d.shown.length ≤ sizeLine ∧ Q (.str d.shown) H
theorem call_reprD (gd : X.A.guards = some []) (hu : X.A.units + 66 < cLine) : CallR X (.builtin "repr") (rReprD X.K) := by
  intro pins s σ H xs us Q I r h
  obtain ⟨v, d, rfl, hd, sh, nd, dp, sz, q⟩ := h
  obtain ⟨u, rfl, ru⟩ := vals1 r
  obtain ⟨as, rd⟩ := Dp.reads I d v u hd ru
  have fin : ∀ (h' : Heap) (t : Tok) (tk : Nat), (∀ b o, s.heap.get? b = some o → h'.get? b = some o) → EP X pins σ Q (.str d.shown t) { s with heap := h', toks := tk } := fun h' t tk hk => ⟨.str d.shown, H, I.kept hk, ⟨t, rfl⟩, q⟩
  cases hd with
  | lst a b => cases ru; exact repr_of_reads' rd sh (PyData.noDict_hsm nd) gd (by omega) (fun _ _ z => z) fin sz
  | tup a b => cases ru; exact repr_of_reads' rd sh (PyData.noDict_hsm nd) gd (by omega) (fun _ _ z => z) fin sz
  | non => cases ru; rw [PyData.shown_none] at fin; exact PySem.P.repr_of_none (fin s.heap _ _ fun _ _ z => z)
  | bl b => cases ru; rw [PyData.shown_bool] at fin; exact PySem.P.repr_of_bool (by cases b <;> exact fin s.heap _ _ fun _ _ z => z)
  | int i => obtain ⟨t, rfl⟩ := ru; rw [PyData.shown_int] at fin; exact PySem.P.repr_of_int (by simpa [PyData.showable] using sh) (fin s.heap _ _ fun _ _ z => z)
  | str z => obtain ⟨t, rfl⟩ := ru; rw [PyData.shown_str] at fin sz; exact PySem.P.repr_of_str (fin s.heap _ _ fun _ _ z => z) sz
end
/-! ### the law's own call -/
section
variable {P : Program} {w : World} {K : PySem.W.Frag} {mg mb : Str → Option Value} {k : Nat} {fa a : Addr} {fd : FuncData} {x : Str} {sp : Sp} {s1 : Shared} {vs : List Value} {ns : List Int}
theorem callG_core (hr : Room k callerA) (F : ∀ bs : Heap, K.In bs → bs.Ns mainGlobals mg → FnG P w K mg bs CX0 k fa fd [x] sp) (hbd : ∀ (s : Shared) (u : Value), BindsTo s fd ⟨[u], []⟩ [(x, u)])
    (KX : K.In s1.heap) (n1 : s1.heap.Ns mainGlobals mg) (n2 : s1.heap.Ns builtinsNs mb) (n3 : ∀ x : Str, x ≠ "__name__" → mb x = bootBuiltins x) (n4 : s1.heap.NoLimit) (n5 : s1.gens = #[])
    (ha : s1.heap.get? a = some { cls := .type "list", data := .seq vs.toArray }) (H : Hp) (hO : Only H) (hok : HOk P w H s1.heap) (hA : ∀ b, H b ≠ none → b = a) (hK : H a ≠ none → K.lookup a = none)
    (hsp : sp [.ref a] H (fun v _ => v = .bl true) fun _ _ _ => False) :
    codeAny (model P w) callerA (.call (.ref fa) ⟨[.ref a], []⟩) (fun r s' => r = .ok (.ret (.bool true)) ∧ OldK s1.heap s'.heap ∧ s'.os = s1.os ∧ AllBare s'.gens) s1 := by
  have noD : ∀ (b : Addr) (o : Obj) (es : Array DictEntry) (ep : Nat), s1.heap.get? b = some o → o.data = .dict es ep → H b = none := by
    intro b o es ep e d
    by_cases z : H b = none
    · exact z
    · rw [hA b z, ha] at e
      cases e
      exact nomatch (show Data.seq vs.toArray _ = Data.dict es ep from d)
  have nsB : ∀ (b : Addr) (m : Str → Option Value), s1.heap.Ns b m → (hidT s1.heap H).Ns b m := by
    rintro b m ⟨o, es, ep, e, d, rest⟩
    exact ⟨o, es, ep, hidT_get e (noD b o es ep e d), d, rest⟩
  have inB : K.In (hidT s1.heap H) := by
    intro b o e
    refine hidT_get (KX b o e) ?_
    by_cases z : H b = none
    · exact z
    · have eb := hA b z
      rw [eb] at z e
      rw [hK z] at e
      cases e
  obtain ⟨mc, l1, l2⟩ := n4
  have md : Mod K mg (hidT s1.heap H) := ⟨inB, nsB _ _ n1, ⟨mb, nsB _ _ n2, n3⟩, ⟨mc, nsB _ _ l1, l2⟩⟩
  have en : Env0 P w K mg (hidT s1.heap H) callerA [] s1 H :=
    ⟨rfl, md, fun b o e => of_hidT e, Nat.le_of_eq (hidT_size _ _), trivial, fun b z => (nomatch (show b ∈ ([] : List Addr) from z)), hok, AllBare.of_eq n5⟩
  refine codeAny_mono ((F _ inB (nsB _ _ n1)).run callerA [] s1 H ⟨[.ref a], []⟩ [.ref a] [.ref a] _ _ rfl hr en (hbd s1 (.ref a)) (.cons rfl .nil) hsp) fun r s' h => ?_
  match r, h with
  | .error e, h => exact h.elim
  | .ok (.ret u), h =>
    obtain ⟨v, H', os, bare, un, hok2, r2, q⟩ := h
    cases (show v = .bl true from q)
    cases (show u = Value.bool true from r2)
    refine ⟨rfl, OldK.of_keep fun b o e => ?_, os, bare⟩
    rcases hO b with z | ⟨ob, xs, z⟩
    · exact un.keep b o e z (fun q => nomatch (show b ∈ ([] : List Addr) from q)) (fun q => nomatch q)
    · obtain ⟨e1, _⟩ := hok b _ z
      obtain ⟨e2, _⟩ := hok2 b _ (un.frzs b ob _ z)
      rw [e] at e1; cases e1
      exact e2
theorem callG (hr : Room k callerA) (F : ∀ bs : Heap, K.In bs → bs.Ns mainGlobals mg → FnG P w K mg bs CX0 k fa fd [x] sp) (hbd : ∀ (s : Shared) (u : Value), BindsTo s fd ⟨[u], []⟩ [(x, u)])
    (KX : K.In s1.heap) (n1 : s1.heap.Ns mainGlobals mg) (n2 : s1.heap.Ns builtinsNs mb) (n3 : ∀ x : Str, x ≠ "__name__" → mb x = bootBuiltins x) (n4 : s1.heap.NoLimit) (n5 : s1.gens = #[])
    (ha : s1.heap.get? a = some { cls := .type "list", data := .seq vs.toArray }) (hi : IntsAre vs ns) (hl : ns.length ≤ sizeLine)
    (hsp : ∀ H : Hp, Only H → SqL K H a (ns.map V.int) → sp [.ref a] H (fun v _ => v = .bl true) fun _ _ _ => False) :
    codeAny (model P w) callerA (.call (.ref fa) ⟨[.ref a], []⟩) (fun r s' => r = .ok (.ret (.bool true)) ∧ OldK s1.heap s'.heap ∧ s'.os = s1.os ∧ AllBare s'.gens) s1 := by
  have rv := vals_ints hi
  have lv := hi.length
  by_cases hk : K.lookup a = none
  · let H : Hp := fun b => if b = a then some (.frz { cls := .type "list", data := .seq vs.toArray } (.lst (ns.map V.int))) else none
    have at1 : H a = some (.frz { cls := .type "list", data := .seq vs.toArray } (.lst (ns.map V.int))) := if_pos rfl
    have at2 : ∀ b, b ≠ a → H b = none := fun b n => if_neg n
    have only : Only H := fun b => by
      by_cases hb : b = a
      · rw [hb]; exact .inr ⟨_, _, at1⟩
      · exact .inl (at2 b hb)
    refine callG_core hr F hbd KX n1 n2 n3 n4 n5 ha H only (fun b u z => ?_) (fun b z => ?_) (fun _ => hk) (hsp H only (.inl (.inr ⟨_, at1⟩)))
    · by_cases hb : b = a
      · rw [hb, at1] at z
        cases z
        rw [hb]
        exact ⟨ha, by rw [List.length_map]; exact hl, vs, _, rv, ha⟩
      · rw [at2 b hb] at z; cases z
    · by_cases hb : b = a
      · exact hb
      · exact absurd (at2 b hb) z
  · obtain ⟨o, ho⟩ := Option.ne_none_iff_exists'.mp hk
    have e := KX a o ho
    rw [ha] at e
    cases e
    have only : Only (fun _ => none) := fun _ => .inl rfl
    exact callG_core hr F hbd KX n1 n2 n3 n4 n5 ha (fun _ => none) only (fun b u z => nomatch (show (none : Option HO) = some u from z)) (fun b z => absurd rfl z) (fun z => absurd rfl z)
      (hsp _ only (.inr ⟨_, vs.toArray, _, ho, rfl, rfl, rfl, by rw [List.size_toArray, lv]; exact hl, by simpa using rv⟩))
end
theorem walkG {l : PySem.W.OpenLaw} {n k : Nat} {q : Program} {ls : List Str} {XP : (Str → Option Value) → Heap → Prop} {YP : World → Heap → Prop} {d : DefRec} {x : Str}
    (hn : l.most = some n) (hn2 : n ≤ sizeLine) (hdf : d.params.defaults = []) (hr : Room k callerA)
    (F : ∀ (w : World) (mg : Str → Option Value) (fa : Addr) (h : Heap), YP w h → h.Ns mainGlobals mg → mg d.name = some (.ref fa) →
      ∃ (K : PySem.W.Frag) (fd : FuncData) (sp : Sp), K.In h ∧ (∀ (s : Shared) (u : Value), BindsTo s fd ⟨[u], []⟩ [(x, u)]) ∧
        (∀ (H : Hp) (a : Addr) (ns : List Int), ns.length ≤ n → Only H → SqL K H a (ns.map V.int) → sp [.ref a] H (fun v _ => v = .bl true) fun _ _ _ => False) ∧
        ∀ bs : Heap, K.In bs → bs.Ns mainGlobals mg → FnG l.prog w K mg bs CX0 k fa fd [x] sp) :
    PySem.W.WalkO q ls XP YP l.row.toRowW d [] (fun f vs => PySem.call f vs) := by
  refine Att.attach_call hn hdf ?_
  intro w s0 s1 mg mb fa o pm cd doc a vs ns G Y ho hd hcd hmg hobj hints hlen hg
  obtain ⟨K, fd, sp, KX, hb, hsp, hF⟩ := F w mg fa _ Y G.T.g hmg
  exact callG hr hF hb KX G.T.g G.T.b G.T.builtins G.T.nolimit hg hobj hints (Nat.le_trans hlen hn2) (fun H hO hS => hsp H a ns hlen hO hS)
end EL

set_option Elab.async false
set_option linter.all false
set_option maxRecDepth 100000
set_option maxHeartbeats 4000000
set_option autoImplicit false
namespace EL
open PySem PySem.Spec PyProof.Rows L2
theorem rm66 {k : Nat} {A : Around} (r : Room k A) : A.units + 66 < cLine := by have := r.un; omega
/-! ### the slots by other words -/
def Cv (B' : Bn) (H : Hp) : List (Option PV) → List (Option PV) → Prop
  | [], [] => True
  | _ :: a, none :: b => Cv B' H a b
  | some p :: a, some q :: b => (∀ v, p v H → q v H) ∧ Stb B' q ∧ Cv B' H a b
  | _, _ => False
theorem Cv.len {B' : Bn} {H : Hp} : ∀ {a b : List (Option PV)}, Cv B' H a b → a.length = b.length
  | [], [], _ => rfl
  | _ :: a, none :: b, h => by rw [List.length_cons, List.length_cons, Cv.len (a := a) (b := b) (by cases ‹Option PV› <;> exact h)]
  | some _ :: a, some _ :: b, h => by rw [List.length_cons, List.length_cons, Cv.len (a := a) (b := b) h.2.2]
  | none :: _, some _ :: _, h => h.elim
  | [], _ :: _, h => h.elim
  | _ :: _, [], h => by cases ‹Option PV› <;> cases h
theorem Cv.get {B' : Bn} {H : Hp} : ∀ {a b : List (Option PV)} {i : Nat} {q : PV}, Cv B' H a b → b[i]? = some (some q) → Stb B' q ∧ ∃ p, a[i]? = some (some p) ∧ ∀ v, p v H → q v H
  | [], [], _, _, _, e => by simp at e
  | x :: a, none :: b, 0, q, _, e => by simp at e
  | x :: a, none :: b, i + 1, q, h, e => by
    have := Cv.get (a := a) (b := b) (i := i) (q := q) (by cases x <;> exact h) (by simpa using e)
    simpa using this
  | some x :: a, some y :: b, 0, q, h, e => by
    have e1 : y = q := by simpa using e
    subst e1
    exact ⟨h.2.1, x, rfl, h.1⟩
  | some x :: a, some y :: b, i + 1, q, h, e => by
    have := Cv.get (a := a) (b := b) (i := i) (q := q) h.2.2 (by simpa using e)
    simpa using this
  | none :: _, some _ :: _, _, _, h, _ => h.elim
  | [], _ :: _, _, _, h, _ => h.elim
  | _ :: _, [], _, _, h, _ => by cases ‹Option PV› <;> cases h
theorem SD.cv {B B' : Bn} {H : Hp} {σ : L2.St} {δ δ' : List (Option PV)} (s : SD B H σ δ) (o : BOk B' H) (c : Cv B' H δ δ') : SD B' H σ δ' := ⟨o, s.len.trans c.len, fun i q e => by
  obtain ⟨hq, p, e1, h⟩ := c.get e
  obtain ⟨v, e2, pv⟩ := s.get e1
  exact ⟨hq, v, e2, h v pv⟩⟩
theorem im_pl {K : PySem.W.Frag} {B B' : Bn} {H : Hp} {d : PyData} (h : plain d = true) : ∀ v, im K B d v H → im K B' d v H := fun v q => im_tk ⟨fun _ _ z => z, fun _ _ _ z => z⟩ d v h q
/-- one list of one's own -/
abbrev own1 (p : Addr) : Bn := fun a => a = p
theorem own1.ok {p : Addr} {H : Hp} {o : HO} (h : H p = some o) : BOk (own1 p) H := fun a z => by rw [z, h]; exact fun q => nomatch q
theorem RB.own {p : Addr} {H0 H Hc : Hp} (e : Ex H0 H) (n : H0 p = none) (r : RB (own1 p) H Hc) : Ex H0 Hc := fun a o h => r.keep a o (fun z => by rw [show a = p from z, n] at h; cases h) (e a o h)
section
variable {B : Bn} {K : PySem.W.Frag} {δ : List (Option PV)} {H : Hp} {te : TE} {q : PV} {D : Ends} {σ : L2.St}
theorem st_append [Stb B q] {i : Nat} {p : Addr} {vs : List V} (S : SD B H σ δ) (hi : δ[i]? = some (some (isP (.ref p)))) (hb : B p) (hp : H p = some (.lst vs)) (hl : vs.length < sizeLine) (he : Ev Ex B te δ H q)
    (k : ∀ v H3, SD B H3 σ δ → q v H3 → H3 p = some (.lst (vs ++ [v])) → RB B H H3 → D.nx σ H3) : tDrop (tBM K "list" rAppend (tVar i) (tCons te tNil)) D σ H := by
  refine st_lmeth (R := Ex) S (ev_var hi) (ea_cons he ea_nil) (fun H1 r1 => ⟨_, r1 _ _ hp⟩) fun us H2 r2 S2 ⟨v, r, e, hq, e2⟩ => ?_
  subst e; cases (show r = [] from e2)
  have h2 := r2 _ _ hp
  have rb := RB.updB (RB.refl H2) hb h2 (o := .lst (vs ++ [v]))
  exact ⟨p, vs, v, rfl, rfl, h2, hl, k v _ (S2.mono rb) (Stb.st rb hq) upd_same ((RB.of_ex r2).trans rb)⟩
end
section
variable {R : Hp → Hp → Prop} {B : Bn} [rk : Rok B R] {K : PySem.W.Frag} {δ : List (Option PV)} {H : Hp} {ta tb te : TE} {C : Int → Prop}
theorem ev_ixN {ds : List PyData} (ha : Ev R B ta δ H (im K B (.list ds))) (hb : Ev R B tb δ H (intP C)) (hc : ∀ i, C i → 0 ≤ i ∧ i < ds.length) : Ev R B (tOp (rIx K) ta tb) δ H (exP (· ∈ ds) (im K B)) :=
  ev_op ha hb fun x y H1 _ _ ⟨a, vs, hx, _, hs, hv⟩ ⟨i, c, hy⟩ Q k => by
    obtain ⟨h0, h1⟩ := hc i c
    have hl : i.toNat < ds.length := by omega
    have e : atI ds i = some ds[i.toNat] := by
      have := atI_nat (List.getElem?_eq_getElem hl)
      rwa [Int.toNat_of_nonneg h0] at this
    obtain ⟨v, e1, e2⟩ := atI_im hv e
    exact .inl ⟨a, vs, i, v, hx, hy, hs, e1, k v H1 (Ex.refl H1) ⟨_, List.getElem_mem hl, e2⟩⟩
theorem ev_repr {d : PyData} (he : Ev R B te δ H (im K B d)) (h1 : d.showable = true) (h2 : d.hasDict = false) (h3 : d.depth ≤ 64) (h4 : d.shown.length ≤ sizeLine) : Ev R B (tCB (rReprD K) (tCons te tNil)) δ H (im K B (.str d.shown)) :=
  ev_cb (ea_cons he ea_nil) fun vs H1 _ _ ⟨v, r, e, hv, e2⟩ Q k => by
    subst e; cases (show r = [] from e2)
    exact ⟨v, d, rfl, im_dp _ _ hv, h1, h2, h3, h4, k _ H1 (rk.rf H1) rfl⟩
end
/-! ### choosing from a list by the hand -/
def spOf (K : PySem.W.Frag) : Sp := fun vs H Q _ => ∃ (B : Bn) (h l : Addr) (ds : List PyData) (v : V), Has B h l ∧ BOk B H ∧ vs = [.ref h, v] ∧ HandOk h l H ∧ im K B (.list ds) v H ∧ 1 ≤ ds.length ∧ ds.length < 1073741824 ∧
  ∀ d u H', d ∈ ds → Rh h l H H' → im K B d u H' → Q u H'
theorem ev_of {B : Bn} {h l : Addr} [hs : Has B h l] {K : PySem.W.Frag} {δ : List (Option PV)} {H : Hp} {ta tb : TE} {E : XK} {ds : List PyData} (hk : HandOk h l H) (ha : Ev (Rh h l) B ta δ H (isP (.ref h))) (hb : Ev (Rh h l) B tb δ H (im K B (.list ds)))
    (h1 : 1 ≤ ds.length) (h2 : ds.length < 1073741824) : Ev (Rh h l) B (tCall (spOf K) [] E (tCons ta (tCons tb tNil))) δ H (exP (· ∈ ds) (im K B)) := fun σ H1 r1 S Q k =>
  ha σ H1 r1 S _ fun x H2 r2 ex => hb σ H2 (Rok.tr B r1 r2) (S.mono (Rok.rb r2)) _ fun y H3 r3 hy =>
    ⟨B, h, l, ds, y, hs, S.ok.mono (Rok.rb (Rok.tr B r2 r3)), by rw [show x = _ from ex]; rfl, ((r1.ok hk |> r2.ok) |> r3.ok), hy, h1, h2, fun d u H4 hd r4 hu => k _ H4 (Rok.tr B (Rok.tr B r2 r3) r4) ⟨d, hd, hu⟩⟩
/-! ### isinstance -/
def tyName : PyData → String
  | .none => "NoneType"
  | .bool _ => "bool"
  | .int _ => "int"
  | .str _ => "str"
  | .list _ => "list"
  | .tuple _ => "tuple"
  | .dict _ => "dict"
theorem im_ty {K : PySem.W.Frag} {B : Bn} {H : Hp} : ∀ {d : PyData} {v : V}, im K B d v H → TyX K H v (.type (tyName d))
  | .none, _, h => by cases (show _ = _ from h); exact .base .non
  | .bool _, _, h => by cases (show _ = _ from h); exact .base (.bl _)
  | .int _, _, h => by cases (show _ = _ from h); exact .base (.int _)
  | .str _, _, h => by cases (show _ = _ from h); exact .base (.str _)
  | .tuple ds, _, ⟨a, vs, e, s, _⟩ => by
    subst e
    rcases s with (s | ⟨o, s⟩) | ⟨o, its, n, h1, h2, _⟩
    · exact .base (.tup s)
    · exact .fTuple s
    · exact .kTuple h1 h2
  | .list ds, _, ⟨a, vs, e, _, s, _⟩ => by
    subst e
    rcases s with (s | ⟨o, s⟩) | ⟨o, its, n, h1, h2, _⟩
    · exact .base (.lst s)
    · exact .base (.frz s)
    · exact .kList h1 h2
  | .dict _, _, h => h.elim
theorem ev_isi {R : Hp → Hp → Prop} {B : Bn} [rk : Rok B R] {K : PySem.W.Frag} {δ : List (Option PV)} {H : Hp} {te : TE} {d : PyData} {T : String} {b : Bool} (he : Ev R B te δ H (im K B d)) (hb : kitB (tyName d) T = some b) :
    Ev R B (tCB (rIsi K) (tCons te (tCons (tC (.ty T)) tNil))) δ H (im K B (.bool b)) :=
  ev_cb (ea_cons he (ea_cons (ev_c (v := .ty T)) ea_nil)) fun vs H1 _ _ ⟨v, r, e, hv, v2, r2, e2, hv2, e3⟩ Q k => by
    subst e e2; cases (show r2 = [] from e3); cases (show v2 = _ from hv2)
    exact ⟨v, .ty T, _, _, b, rfl, .ty T, im_ty hv, kit_ty hb, k _ H1 (rk.rf H1) rfl⟩
theorem kit_none_int : kitB (tyName .none) "int" = some false := show kitB "NoneType" "int" = _ by decide +kernel
theorem kit_none_bool : kitB (tyName .none) "bool" = some false := show kitB "NoneType" "bool" = _ by decide +kernel
theorem kit_none_str : kitB (tyName .none) "str" = some false := show kitB "NoneType" "str" = _ by decide +kernel
theorem kit_none_tuple : kitB (tyName .none) "tuple" = some false := show kitB "NoneType" "tuple" = _ by decide +kernel
theorem kit_none_list : kitB (tyName .none) "list" = some false := show kitB "NoneType" "list" = _ by decide +kernel
theorem kit_bool_int {x : Bool} : kitB (tyName (.bool x)) "int" = some true := show kitB "bool" "int" = _ by decide +kernel
theorem kit_bool_bool {x : Bool} : kitB (tyName (.bool x)) "bool" = some true := show kitB "bool" "bool" = _ by decide +kernel
theorem kit_bool_str {x : Bool} : kitB (tyName (.bool x)) "str" = some false := show kitB "bool" "str" = _ by decide +kernel
theorem kit_bool_tuple {x : Bool} : kitB (tyName (.bool x)) "tuple" = some false := show kitB "bool" "tuple" = _ by decide +kernel
theorem kit_bool_list {x : Bool} : kitB (tyName (.bool x)) "list" = some false := show kitB "bool" "list" = _ by decide +kernel
theorem kit_int_int {x : Int} : kitB (tyName (.int x)) "int" = some true := show kitB "int" "int" = _ by decide +kernel
theorem kit_int_bool {x : Int} : kitB (tyName (.int x)) "bool" = some false := show kitB "int" "bool" = _ by decide +kernel
theorem kit_int_str {x : Int} : kitB (tyName (.int x)) "str" = some false := show kitB "int" "str" = _ by decide +kernel
theorem kit_int_tuple {x : Int} : kitB (tyName (.int x)) "tuple" = some false := show kitB "int" "tuple" = _ by decide +kernel
theorem kit_int_list {x : Int} : kitB (tyName (.int x)) "list" = some false := show kitB "int" "list" = _ by decide +kernel
theorem kit_str_int {x : Str} : kitB (tyName (.str x)) "int" = some false := show kitB "str" "int" = _ by decide +kernel
theorem kit_str_bool {x : Str} : kitB (tyName (.str x)) "bool" = some false := show kitB "str" "bool" = _ by decide +kernel
theorem kit_str_str {x : Str} : kitB (tyName (.str x)) "str" = some true := show kitB "str" "str" = _ by decide +kernel
theorem kit_str_tuple {x : Str} : kitB (tyName (.str x)) "tuple" = some false := show kitB "str" "tuple" = _ by decide +kernel
theorem kit_str_list {x : Str} : kitB (tyName (.str x)) "list" = some false := show kitB "str" "list" = _ by decide +kernel
theorem kit_list_int {x : List PyData} : kitB (tyName (.list x)) "int" = some false := show kitB "list" "int" = _ by decide +kernel
theorem kit_list_bool {x : List PyData} : kitB (tyName (.list x)) "bool" = some false := show kitB "list" "bool" = _ by decide +kernel
theorem kit_list_str {x : List PyData} : kitB (tyName (.list x)) "str" = some false := show kitB "list" "str" = _ by decide +kernel
theorem kit_list_tuple {x : List PyData} : kitB (tyName (.list x)) "tuple" = some false := show kitB "list" "tuple" = _ by decide +kernel
theorem kit_list_list {x : List PyData} : kitB (tyName (.list x)) "list" = some true := show kitB "list" "list" = _ by decide +kernel
theorem kit_tuple_int {x : List PyData} : kitB (tyName (.tuple x)) "int" = some false := show kitB "tuple" "int" = _ by decide +kernel
theorem kit_tuple_bool {x : List PyData} : kitB (tyName (.tuple x)) "bool" = some false := show kitB "tuple" "bool" = _ by decide +kernel
theorem kit_tuple_str {x : List PyData} : kitB (tyName (.tuple x)) "str" = some false := show kitB "tuple" "str" = _ by decide +kernel
theorem kit_tuple_tuple {x : List PyData} : kitB (tyName (.tuple x)) "tuple" = some true := show kitB "tuple" "tuple" = _ by decide +kernel
theorem kit_tuple_list {x : List PyData} : kitB (tyName (.tuple x)) "list" = some false := show kitB "tuple" "list" = _ by decide +kernel
theorem kit_dict_int {x : List (PyData × PyData)} : kitB (tyName (.dict x)) "int" = some false := show kitB "dict" "int" = _ by decide +kernel
theorem kit_dict_bool {x : List (PyData × PyData)} : kitB (tyName (.dict x)) "bool" = some false := show kitB "dict" "bool" = _ by decide +kernel
theorem kit_dict_str {x : List (PyData × PyData)} : kitB (tyName (.dict x)) "str" = some false := show kitB "dict" "str" = _ by decide +kernel
theorem kit_dict_tuple {x : List (PyData × PyData)} : kitB (tyName (.dict x)) "tuple" = some false := show kitB "dict" "tuple" = _ by decide +kernel
theorem kit_dict_list {x : List (PyData × PyData)} : kitB (tyName (.dict x)) "list" = some false := show kitB "dict" "list" = _ by decide +kernel
end EL

set_option Elab.async false
set_option linter.all false
set_option maxRecDepth 100000
set_option maxHeartbeats 4000000
set_option autoImplicit false
namespace EL
open PySem PySem.Spec PyProof.Rows L2
/-- what is open in a slot is told -/
theorem SD.opn {B : Bn} {H : Hp} {σ : L2.St} {δ : List (Option PV)} {α : Type} {C : α → Prop} {q : α → PV} [∀ a, Stb B (q a)] (s : SD B H σ δ) (i : Nat) (e : δ[i]? = some (some (exP C q))) : ∃ a, C a ∧ SD B H σ (δ.set i (some (q a))) := by
  obtain ⟨v, e1, a, c, h⟩ := s.get e
  refine ⟨a, c, s.ok, by rw [List.length_set]; exact s.len, fun j p e2 => ?_⟩
  by_cases hj : i = j
  · subst hj
    have hl : i < δ.length := by
      rcases Nat.lt_or_ge i δ.length with z | z
      · exact z
      · rw [List.getElem?_eq_none z] at e; cases e
    rw [List.getElem?_set_self hl] at e2
    cases e2
    exact ⟨inferInstance, v, e1, h⟩
  · rw [List.getElem?_set_ne hj] at e2
    exact s.at_ j p e2
theorem SD.opnI {K : PySem.W.Frag} {B : Bn} {H : Hp} {σ : L2.St} {δ : List (Option PV)} {C : Int → Prop} (s : SD B H σ δ) (i : Nat) (e : δ[i]? = some (some (intP C))) : ∃ a, C a ∧ SD B H σ (δ.set i (some (im K B (.int a)))) := by
  obtain ⟨v, e1, a, c, h⟩ := s.get e
  refine ⟨a, c, s.ok, by rw [List.length_set]; exact s.len, fun j p e2 => ?_⟩
  by_cases hj : i = j
  · subst hj
    have hl : i < δ.length := by
      rcases Nat.lt_or_ge i δ.length with z | z
      · exact z
      · rw [List.getElem?_eq_none z] at e; cases e
    rw [List.getElem?_set_self hl] at e2
    cases e2
    exact ⟨inferInstance, v, e1, h⟩
  · rw [List.getElem?_set_ne hj] at e2
    exact s.at_ j p e2
section
variable {R : Hp → Hp → Prop} {B : Bn} [rk : Rok B R] {K : PySem.W.Frag} {δ : List (Option PV)} {H : Hp} {ta tb te : TE} {D : Ends} {σ : L2.St} {i j : Nat}
/-- a, b = x, y by way of a tuple -/
theorem st_tup2 {ta : TA} {p q : PV} [Stb B p] [Stb B q] (S : SD B H σ δ) (h : EvA R B ta δ H [p, q]) (k : ∀ σ' H2, R H H2 → SD B H2 σ' ((δ.set i (some p)).set j (some q)) → D.nx σ' H2) :
    tAsg (tTup ta) (gTup K 2 (gCons (gName i) (gCons (gName j) gNil))) D σ H :=
  h σ H (rk.rf H) S _ fun vs H2 r2 ⟨v, r, e, pv, v2, r', e', qv, e''⟩ => by
    subst e e'; cases (show r' = [] from e'')
    refine ⟨show 2 ≤ sizeLine by decide, fun T hT => ⟨T, _, rfl, sqT_of upd_same, rfl, v, _, rfl, v2, _, rfl, rfl, ?_⟩⟩
    have ex : Ex H2 (upd H2 T (.tup [v, v2])) := Ex.new hT
    exact k _ _ (rk.tr r2 (rk.ex ex)) ((((S.mono (rk.rb r2)).mono (RB.of_ex ex)).set (Stb.st (B := B) (RB.of_ex ex) pv)).set (Stb.st (B := B) (RB.of_ex ex) qv))
/-- over a range of an open number of turns -/
theorem ev_lcB {g : TG} {tt : TT} {vs : List Nat} {N : Int → Prop} {p : PV} (hn : Ev R B ta δ H (intP N)) (h : ∀ n, N n → ∀ H1, R H H1 → Ev R B (tLc (iRng1 (tCons (tC (.int n)) tNil)) g tt te vs) δ H1 p) : Ev R B (tLc (iRng1 (tCons ta tNil)) g tt te vs) δ H p :=
  fun σ H1 r1 S Q k => hn σ H1 r1 S _ fun v H2 r2 ⟨n, c, e⟩ => by
    subst e
    exact h n c H2 (rk.tr r1 r2) σ H2 (rk.rf H2) (S.mono (rk.rb r2)) Q fun v H3 r3 pv => k v H3 (rk.tr r2 r3) pv
theorem ev_tupleLx {α : Type} {C : α → Prop} {f : α → List PyData} (ha : Ev R B ta δ H (exP C fun a => im K B (.list (f a)))) : Ev R B (tCB (rTupQ K) (tCons ta tNil)) δ H (exP C fun a => im K B (.tuple (f a))) :=
  ev_cb (ea_cons ha ea_nil) fun vs H1 _ _ ⟨v, r, e, ⟨z, c, a, xs, e1, _, s, h⟩, e2⟩ Q k => by
    subst e e1; cases (show r = [] from e2)
    exact ⟨a, xs, rfl, .inl ⟨s, fun l hl => k _ _ (rk.ex (Ex.new hl)) ⟨z, c, l, xs, rfl, sqT_of upd_same, imAll_st (RB.of_ex (Ex.new hl)) _ _ h⟩⟩⟩
theorem ev_tup2x {α : Type} {C : α → Prop} {f : α → PyData} {d : PyData} (ha : Ev R B ta δ H (im K B d)) (hb : Ev R B tb δ H (exP C fun a => im K B (f a))) : Ev R B (tTup (tCons ta (tCons tb tNil))) δ H (exP C fun a => im K B (.tuple [d, f a])) := fun σ H1 r1 S Q k =>
  ea_cons ha (ea_cons hb ea_nil) σ H1 r1 S _ fun vs H2 r2 ⟨v, r, e, pv, v2, r', e', ⟨a, c, qv⟩, e''⟩ => by
    subst e e'; cases (show r' = [] from e'')
    exact ⟨show 2 ≤ sizeLine by decide, fun T hT => k _ _ (rk.tr r2 (rk.ex (Ex.new hT))) ⟨a, c, T, _, rfl, sqT_of upd_same, imAll_st (B := B) (RB.of_ex (Ex.new hT)) [d, f a] [v, v2] ⟨v, _, rfl, pv, v2, _, rfl, qv, rfl⟩⟩⟩
end
/-- picks, as many as a range has -/
theorem ev_picks {B : Bn} {h l : Addr} [hs : Has B h l] {K : PySem.W.Frag} {δ : List (Option PV)} {H : Hp} {ta tn tm : TE} {E : XK} {N : Int → Prop} {v : Nat} {m : Int} (hk : HandOk h l H) (hn : Ev (Rh h l) B tn δ H (intP N)) (hN : ∀ n, N n → 0 ≤ n ∧ n ≤ 100000)
    (ha : ∀ i Hc, Rh h l H Hc → Ev (Rh h l) B ta ((δ.set v none).set v (some (im K B (.int i)))) Hc (isP (.ref h))) (hm : ∀ i Hc, Rh h l H Hc → Ev (Rh h l) B tm ((δ.set v none).set v (some (im K B (.int i)))) Hc (im K B (.int m))) (m1 : 1 ≤ m) (m2 : m < 1073741824) :
    Ev (Rh h l) B (tLc (iRng1 (tCons tn tNil)) (gName v) tYes (tCall spPick [] E (tCons ta (tCons tm tNil))) [v]) δ H (exP (fun ns : List Int => N ns.length ∧ ∀ x ∈ ns, 0 ≤ x ∧ x < m) fun ns => im K B (.list (ns.map .int))) :=
  ev_lcB hn fun n c H1 r1 => by
    obtain ⟨n0, n1⟩ := hN n c
    refine (ev_lc (K := K) (fun i ds => ∃ ns : List Int, ds = ns.map .int ∧ ns.length = i ∧ ∀ x ∈ ns, 0 ≤ x ∧ x < m) (src_range1 (K := K) (ev_int (i := n)) (by omega) (by omega)) (Nat.le_trans (show n.toNat ≤ 100000 by omega) (by decide)) ⟨[], rfl, rfl, by simp⟩ fun i ds Hc hi ⟨ns, e, hl, hx⟩ r =>
      ⟨_, etx_yes, (fun z => Bool.noConfusion z), fun _ Hd rd => ⟨fun d => ∃ x : Int, d = .int x ∧ 0 ≤ x ∧ x < m, (ev_pickI (rd.ok (r.ok (r1.ok hk))) (ha i Hd (Rok.tr B (Rok.tr B r1 r) rd)) (hm i Hd (Rok.tr B (Rok.tr B r1 r) rd)) m1 m2).conv fun u _ _ ⟨x, c, e⟩ => ⟨.int x, ⟨x, rfl, c.1, c.2⟩, e⟩, fun d ⟨x, ed, h0, h1⟩ => ?_⟩⟩).conv
      fun u H2 _ ⟨ds, ⟨ns, e, hl, hx⟩, hu⟩ => ⟨ns, ⟨by rw [hl, Int.toNat_of_nonneg n0]; exact c, hx⟩, by show im K B (.list (ns.map .int)) u H2; rw [← e]; exact hu⟩
    subst ed
    refine ⟨rfl, ns ++ [x], by rw [e, List.map_append]; rfl, by rw [List.length_append, hl]; rfl, fun y hy => ?_⟩
    rcases List.mem_append.mp hy with z | z
    · exact hx y z
    · rw [List.mem_singleton.mp z]; exact ⟨h0, h1⟩
/-! ### words that are shown -/
theorem showableAll_small {ns : List Int} (h : ∀ x ∈ ns, 0 ≤ x ∧ x < 1000) : PyData.showableAll (ns.map .int) = true := PyData.showableAll_ints ns fun n hn => by
  have := h n hn
  have e : n.natAbs < 2 ^ 10 := by omega
  by_cases z : n.natAbs = 0
  · rw [z]; decide
  · have := (Nat.log2_lt z).mpr e
    omega
theorem hasDictAll_ints : ∀ ns : List Int, PyData.hasDictAll (ns.map .int) = false
  | [] => by rfl
  | n :: ns => by
    have := hasDictAll_ints ns
    simp only [List.map_cons, PyData.hasDictAll, PyData.hasDict, this, Bool.or_self]
theorem leavesShortAll_small {ns : List Int} (h : ∀ x ∈ ns, 0 ≤ x ∧ x < 1000) : PyData.leavesShortAll 13 (ns.map .int) = true := by
  refine PyData.leavesShortAll_of_canLay0 13 _ (canLayAll_ints ns) (PyData.intsShortAll_ints ns fun n hn => ?_)
  have := h n hn
  omega
theorem weightAll_small : ∀ {ns : List Int}, (∀ x ∈ ns, 0 ≤ x ∧ x < 1000) → PyData.weightAll (ns.map .int) ≤ 11 * ns.length
  | [], _ => by simp [PyData.weightAll]
  | n :: ns, h => by
    have ih := weightAll_small (ns := ns) fun x hx => h x (List.mem_cons_of_mem _ hx)
    have h1 := h n List.mem_cons_self
    simp only [List.map_cons, PyData.weightAll, PyData.weight, List.length_cons]
    have : (if (n == 0) = true then 0 else n.natAbs.log2 + 1) ≤ 10 := by
      split
      · omega
      · rename_i z
        have z : n ≠ 0 := by simpa using z
        have := (Nat.log2_lt (show n.natAbs ≠ 0 by omega)).mpr (show n.natAbs < 2 ^ 10 by omega)
        omega
    omega
structure Shows (d : PyData) : Prop where
  s1 : d.showable = true
  s2 : d.hasDict = false
  s3 : d.depth ≤ 64
  s4 : d.shown.length ≤ sizeLine
theorem shows_wd {b r : List Int} (hb : ∀ x ∈ b, 0 ≤ x ∧ x < 1000) (hr : ∀ x ∈ r, 0 ≤ x ∧ x < 1000) (hl : b.length + r.length ≤ 10000) : Shows (wd b r) := by
  refine ⟨?_, ?_, ?_, ?_⟩
  · simp only [PyData.showable, PyData.showableAll, showableAll_small hb, showableAll_small hr, Bool.and_self]
  · simp only [PyData.hasDict, PyData.hasDictAll, hasDictAll_ints, Bool.or_self]
  · have h1 := depthAll_ints b
    have h2 := depthAll_ints r
    simp only [PyData.depth, PyData.depthAll]
    omega
  · refine PyData.shown_fits (B := 13) (by decide) (by decide) ?_ ?_
    · simp only [PyData.leavesShort, PyData.leavesShortAll, leavesShortAll_small hb, leavesShortAll_small hr, Bool.and_self]
    · have h1 := weightAll_small hb
      have h2 := weightAll_small hr
      simp only [PyData.weight, PyData.weightAll]
      omega
theorem ev_reprS {R : Hp → Hp → Prop} {B : Bn} [rk : Rok B R] {K : PySem.W.Frag} {δ : List (Option PV)} {H : Hp} {te : TE} {d : PyData} (he : Ev R B te δ H (im K B d)) (s : Shows d) : Ev R B (tCB (rReprD K) (tCons te tNil)) δ H (im K B (.str d.shown)) := ev_repr he s.s1 s.s2 s.s3 s.s4
theorem st_hand {K : PySem.W.Frag} {N : List Str} {a : Addr} {ns : List Int} {n : Nat} {D : Ends} {H : Hp} {E : XK} (hN : N.length = n + 2) (hS : SqL K H a (ns.map .int)) (hl : ns.length ≤ 63)
    (k : ∀ h l σ' H1, Ex H H1 → HandOk h l H1 → SD (hB h l) H1 σ' (none :: some (isP (.ref h)) :: List.replicate n none) → D.nx σ' H1) : tAsg (tCall (spHand K) [] E (tCons (tVar 0) tNil)) (gName 1) D (start N [.ref a]) H := by
  have e0 : start N [.ref a] = some (.ref a) :: List.replicate (n + 1) none := by
    unfold L2.start
    rw [hN]; rfl
  refine ⟨.ref a, by rw [e0]; rfl, a, ns, rfl, hS, hl, fun h l H1 e1 hk nh nl => ?_⟩
  refine k h l _ H1 e1 hk ⟨hk.bok, ?_, fun i p e => ?_⟩
  · rw [e0]
    simp
  · match i, e with
    | 0, e => cases e
    | 1, e => cases e; exact ⟨inferInstance, .ref h, by rw [e0]; rfl, rfl⟩
    | i + 2, e =>
      have e' : (List.replicate n (none : Option PV))[i]? = some (some p) := e
      rw [List.getElem?_replicate] at e'
      split at e' <;> cases e'
/-- what a law promises -/
def spLaw (K : PySem.W.Frag) : Sp := fun vs H Q _ => ∃ (a : Addr) (ns : List Int), vs = [.ref a] ∧ SqL K H a (ns.map .int) ∧ ns.length ≤ 63 ∧ ∀ H', Q (.bl true) H'
end EL

set_option Elab.async false
set_option linter.all false
set_option maxRecDepth 100000
set_option maxHeartbeats 4000000
set_option autoImplicit false
namespace EL
open PySem PySem.Spec PyProof.Rows L2
/-! ### words without end as sequences -/
abbrev sq (b r : List Int) : Nat → Int := fun n => letterAt b r (n : Int)
def Per (f : Nat → Int) (n p : Nat) : Prop := ∀ i, n ≤ i → f (i + p) = f i
structure Canon (f : Nat → Int) (a p : Nat) : Prop where
  pos : 1 ≤ p
  per : Per f a p
  minp : ∀ q n, 1 ≤ q → Per f n q → p ≤ q
  mina : ∀ n, Per f n p → a ≤ n
def seg (f : Nat → Int) (a p : Nat) : List Int := (List.range p).map fun i => f (a + i)
theorem least {P : Nat → Prop} (h : ∃ n, P n) : ∃ n, P n ∧ ∀ m, P m → n ≤ m := by
  obtain ⟨n, hn⟩ := h
  induction n using Nat.strongRecOn with
  | _ n ih =>
    rcases Classical.em (∃ m, m < n ∧ P m) with ⟨m, hm, pm⟩ | z
    · exact ih m hm pm
    · exact ⟨n, hn, fun m pm => Nat.le_of_not_lt fun q => z ⟨m, q, pm⟩⟩
theorem Canon.uniq {f : Nat → Int} {a p a' p' : Nat} (h : Canon f a p) (h' : Canon f a' p') : a = a' ∧ p = p' := by
  have e : p = p' := Nat.le_antisymm (h.minp _ _ h'.pos h'.per) (h'.minp _ _ h.pos h.per)
  subst e
  exact ⟨Nat.le_antisymm (h.mina _ h'.per) (h'.mina _ h.per), rfl⟩
theorem Canon.ex {f : Nat → Int} {n q : Nat} (hq : 1 ≤ q) (h : Per f n q) : ∃ a p, Canon f a p := by
  obtain ⟨p, ⟨p1, m, pm⟩, hp⟩ := least (P := fun p => 1 ≤ p ∧ ∃ m, Per f m p) ⟨q, hq, n, h⟩
  obtain ⟨a, pa, ha⟩ := least (P := fun a => Per f a p) ⟨m, pm⟩
  exact ⟨a, p, p1, pa, fun q n q1 pq => hp q ⟨q1, n, pq⟩, ha⟩
noncomputable def told (f : Nat → Int) : List Int × List Int := by
  classical exact if h : ∃ ap : Nat × Nat, Canon f ap.1 ap.2 then (seg f 0 (Classical.choose h).1, seg f (Classical.choose h).1 (Classical.choose h).2) else ([], [])
theorem told_eq {f : Nat → Int} {a p : Nat} (h : Canon f a p) : told f = (seg f 0 a, seg f a p) := by
  have hx : ∃ ap : Nat × Nat, Canon f ap.1 ap.2 := ⟨(a, p), h⟩
  have := (Classical.choose_spec hx).uniq h
  unfold told
  rw [dif_pos hx, this.1, this.2]
theorem Per.mul {f : Nat → Int} {n p : Nat} (h : Per f n p) (k : Nat) : Per f n (p * k) := by
  induction k with
  | zero => intro i _; rfl
  | succ k ih => intro i hi; rw [Nat.mul_succ, ← Nat.add_assoc, h _ (by omega), ih i hi]
theorem Per.up {f : Nat → Int} {n m p : Nat} (h : Per f n p) (hm : n ≤ m) : Per f m p := fun i hi => h i (by omega)
/-- a period from later on is one from where any is -/
theorem Per.down {f : Nat → Int} {n m p q : Nat} (h : Per f n p) (hp : 1 ≤ p) (g : Per f m q) : Per f n q := fun i hi => by
  have e1 := h.mul m i hi
  have e2 := h.mul m (i + q) (by omega)
  have e3 := g (i + p * m) (by have : m ≤ p * m := Nat.le_mul_of_pos_left m hp; omega)
  rw [← e2, ← e1, ← e3]
  congr 1
  omega
theorem Canon.dvd {f : Nat → Int} {a p n q : Nat} (h : Canon f a p) (hq : 1 ≤ q) (g : Per f n q) : q % p = 0 := by
  rcases Nat.eq_zero_or_pos (q % p) with z | z
  · exact z
  · have := h.minp (q % p) (max a n) z (fun i hi => by
      have e1 := h.per.mul (q / p) (i + q % p) (by omega)
      have e2 := g i (by omega)
      rw [← e1, ← e2]
      congr 1
      have := Nat.mod_add_div q p
      omega)
    have := Nat.mod_lt q (show 0 < p from h.pos)
    omega
theorem seg_len (f : Nat → Int) (a p : Nat) : (seg f a p).length = p := by unfold seg; rw [List.length_map, List.length_range]
theorem seg_get {f : Nat → Int} {a p i : Nat} (h : i < p) : (seg f a p).getD i 0 = f (a + i) := by
  unfold seg
  rw [List.getD_eq_getElem?_getD, List.getElem?_map, List.getElem?_range h]
  rfl
theorem getD_ext {xs ys : List Int} (hl : xs.length = ys.length) (h : ∀ i, i < xs.length → xs.getD i 0 = ys.getD i 0) : xs = ys := by
  refine List.ext_getElem hl fun i h1 h2 => ?_
  have := h i h1
  rw [List.getD_eq_getElem?_getD, List.getD_eq_getElem?_getD, List.getElem?_eq_getElem h1, List.getElem?_eq_getElem h2] at this
  exact this
theorem sq_lt {b r : List Int} {n : Nat} (h : n < b.length) : sq b r n = b.getD n 0 := by
  show letterAt b r n = _
  unfold letterAt
  rw [if_pos (by omega), Int.toNat_natCast]
theorem sq_ge {b r : List Int} {n : Nat} (h : b.length ≤ n) : sq b r n = r.getD ((n - b.length) % r.length) 0 := by
  show letterAt b r n = _
  unfold letterAt
  rw [if_neg (by omega), show ((n : Int) - b.length) = ((n - b.length : Nat) : Int) by omega, ← Int.natCast_emod, Int.toNat_natCast]
theorem sq_per {b r : List Int} (n : Nat) (h : b.length ≤ n) : Per (sq b r) n r.length := fun i hi => by
  rw [sq_ge (by omega), sq_ge (by omega), show i + r.length - b.length = (i - b.length) + r.length by omega, Nat.add_mod_right]
theorem sq_seg0 (b r : List Int) : seg (sq b r) 0 b.length = b := getD_ext (seg_len _ _ _) fun i hi => by
  rw [seg_len] at hi
  rw [seg_get hi, Nat.zero_add, sq_lt hi]
theorem sq_seg1 (b r : List Int) : seg (sq b r) b.length r.length = r := getD_ext (seg_len _ _ _) fun i hi => by
  rw [seg_len] at hi
  rw [seg_get hi, sq_ge (by omega), Nat.add_sub_cancel_left, Nat.mod_eq_of_lt hi]
theorem sq_tail {b r : List Int} (i : Nat) : sq b r (b.length + i) = sq [] r i := by
  rw [sq_ge (by omega), sq_ge (Nat.zero_le _), Nat.add_sub_cancel_left]
  rfl
theorem nil_ge {r : List Int} (i : Nat) : sq [] r i = r.getD (i % r.length) 0 := by rw [sq_ge (Nat.zero_le _)]; rfl
/-! ### the shortest round -/
theorem rep_len {α : Type} (x : List α) (k : Nat) : (List.replicate k x).flatten.length = k * x.length := by
  induction k with
  | zero => simp
  | succ k ih => rw [List.replicate_succ, List.flatten_cons, List.length_append, ih, Nat.succ_mul, Nat.add_comm]
theorem rep_get {x : List Int} : ∀ {k i : Nat}, i < k * x.length → (List.replicate k x).flatten.getD i 0 = x.getD (i % x.length) 0
  | 0, i, h => by omega
  | k + 1, i, h => by
    rw [List.replicate_succ, List.flatten_cons, List.getD_eq_getElem?_getD]
    by_cases z : i < x.length
    · rw [List.getElem?_append_left z, Nat.mod_eq_of_lt z, ← List.getD_eq_getElem?_getD]
    · rw [Nat.succ_mul] at h
      have := rep_get (x := x) (k := k) (i := i - x.length) (by omega)
      rw [List.getElem?_append_right (by omega), ← List.getD_eq_getElem?_getD, this]
      congr 1
      have e : i = (i - x.length) + x.length := by omega
      conv => rhs; rw [e]
      rw [Nat.add_mod_right]
theorem rep_iff {r : List Int} {s : Nat} (hs : 1 ≤ s) (hl : s ≤ r.length) (hd : r.length % s = 0) : (List.replicate (r.length / s) (r.take s)).flatten = r ↔ Per (sq [] r) 0 s := by
  have tl : (r.take s).length = s := by rw [List.length_take]; omega
  have ml : r.length / s * s = r.length := Nat.div_mul_cancel (Nat.dvd_of_mod_eq_zero hd)
  have tg : ∀ j, j < s → (r.take s).getD j 0 = r.getD j 0 := fun j hj => by
    rw [List.getD_eq_getElem?_getD, List.getElem?_take_of_lt hj, List.getD_eq_getElem?_getD]
  constructor
  · intro e i _
    have at_ : ∀ j, j < r.length → r.getD j 0 = r.getD (j % s) 0 := fun j hj => by
      have := rep_get (x := r.take s) (k := r.length / s) (i := j) (by rw [tl, ml]; exact hj)
      rw [e, tl, tg _ (Nat.mod_lt _ hs)] at this
      exact this
    have hp : 0 < r.length := by omega
    rw [nil_ge, nil_ge, at_ _ (Nat.mod_lt _ hp), at_ (i % r.length) (Nat.mod_lt _ hp)]
    have dv : s ∣ r.length := Nat.dvd_of_mod_eq_zero hd
    rw [Nat.mod_mod_of_dvd _ dv, Nat.mod_mod_of_dvd _ dv, Nat.add_mod_right]
  · intro h
    refine getD_ext (by rw [rep_len, tl, ml]) fun i hi => ?_
    rw [rep_len, tl, ml] at hi
    rw [rep_get (by rw [tl, ml]; exact hi), tl, tg _ (Nat.mod_lt _ hs)]
    have e := h.mul (i / s) (i % s) (Nat.zero_le _)
    have ei : i % s + s * (i / s) = i := Nat.mod_add_div i s
    have l1 : i % s < r.length := Nat.lt_of_lt_of_le (Nat.mod_lt _ hs) hl
    rw [ei, nil_ge, nil_ge, Nat.mod_eq_of_lt hi, Nat.mod_eq_of_lt l1] at e
    exact e.symm
/-- what shortest_round tells -/
structure Short (r r0 : List Int) : Prop where
  ne : r0 ≠ []
  le : r0.length ≤ r.length
  same : sq [] r0 = sq [] r
  minp : ∀ q n, 1 ≤ q → Per (sq [] r) n q → r0.length ≤ q
theorem short_of {r : List Int} {s : Nat} (hr : r ≠ []) (hs : 1 ≤ s) (hl : s ≤ r.length) (hp : Per (sq [] r) 0 s) (hm : ∀ q, 1 ≤ q → q < s → r.length % q = 0 → ¬ Per (sq [] r) 0 q) : Short r (r.take s) := by
  have tl : (r.take s).length = s := by rw [List.length_take]; omega
  have rp : 1 ≤ r.length := List.length_pos_iff.mpr hr
  refine ⟨fun e => by rw [e] at tl; simp at tl; omega, by rw [tl]; exact hl, funext fun i => ?_, fun q n hq hpq => ?_⟩
  · rw [nil_ge, tl, List.getD_eq_getElem?_getD, List.getElem?_take_of_lt (Nat.mod_lt _ hs), ← List.getD_eq_getElem?_getD]
    have e := hp.mul (i / s) (i % s) (Nat.zero_le _)
    rw [Nat.mod_add_div i s] at e
    rw [e, nil_ge, Nat.mod_eq_of_lt (Nat.lt_of_lt_of_le (Nat.mod_lt _ hs) hl)]
  · rw [tl]
    obtain ⟨a, p, hc⟩ := Canon.ex hq hpq
    have pl : Per (sq [] r) 0 r.length := sq_per 0 (Nat.zero_le _)
    have p0 : Per (sq [] r) 0 p := pl.down rp hc.per
    have pd : r.length % p = 0 := hc.dvd rp pl
    have sp : s ≤ p := Nat.le_of_not_lt fun z => hm p hc.pos z pd p0
    exact Nat.le_trans sp (hc.minp q n hq hpq)
theorem short_self {r : List Int} (hr : r ≠ []) (hm : ∀ q, 1 ≤ q → q < r.length → r.length % q = 0 → ¬ Per (sq [] r) 0 q) : Short r r := by
  have := short_of hr (List.length_pos_iff.mpr hr) (Nat.le_refl _) (sq_per 0 (Nat.zero_le _)) hm
  rwa [List.take_length] at this
theorem sq_short {b r r0 : List Int} (h : Short r r0) : sq b r0 = sq b r := funext fun n => by
  by_cases z : n < b.length
  · rw [sq_lt z, sq_lt z]
  · have e : n = b.length + (n - b.length) := by omega
    rw [e, sq_tail, sq_tail, h.same]
/-! ### turning the round back -/
theorem rot_step (c d : List Int) (x : Int) : sq c (x :: d) = sq (c ++ [x]) (d ++ [x]) := funext fun n => by
  have l1 : (c ++ [x]).length = c.length + 1 := by rw [List.length_append]; rfl
  have l2 : (d ++ [x]).length = d.length + 1 := by rw [List.length_append]; rfl
  by_cases z : n < c.length
  · rw [sq_lt z, sq_lt (by omega), List.getD_eq_getElem?_getD, List.getD_eq_getElem?_getD, List.getElem?_append_left z]
  · by_cases z2 : n = c.length
    · subst z2
      rw [sq_ge (Nat.le_refl _), sq_lt (by omega), Nat.sub_self, Nat.zero_mod, List.getD_eq_getElem?_getD, List.getD_eq_getElem?_getD, List.getElem?_append_right (Nat.le_refl _), Nat.sub_self]
      rfl
    · rw [sq_ge (by omega), sq_ge (by omega), l1, l2, List.length_cons]
      have e : n - c.length = (n - (c.length + 1)) + 1 := by omega
      rw [e]
      generalize n - (c.length + 1) = m
      have hm := Nat.mod_lt m (show 0 < d.length + 1 by omega)
      by_cases q : m % (d.length + 1) = d.length
      · have q2 : (m + 1) % (d.length + 1) = 0 := by
          rw [Nat.add_mod, q]
          rcases Nat.eq_zero_or_pos d.length with w | w
          · rw [w]
          · rw [Nat.mod_eq_of_lt (a := 1) (by omega), Nat.mod_self]
        rw [q, q2, List.getD_eq_getElem?_getD, List.getD_eq_getElem?_getD, List.getElem?_append_right (Nat.le_refl _), Nat.sub_self]
        rfl
      · have q2 : (m + 1) % (d.length + 1) = m % (d.length + 1) + 1 := by
          rw [Nat.add_mod, Nat.mod_eq_of_lt (a := 1) (by omega), Nat.mod_eq_of_lt (by omega)]
        rw [q2, List.getD_eq_getElem?_getD, List.getD_eq_getElem?_getD, List.getElem?_append_left (by omega)]
        rfl
theorem told_end {f : Nat → Int} {b r : List Int} (hr : r ≠ []) (hf : sq b r = f) (hm : ∀ q n, 1 ≤ q → Per f n q → r.length ≤ q) (he : ∀ c x, b = c ++ [x] → ∀ d, r ≠ d ++ [x]) : told f = (b, r) := by
  have rp : 1 ≤ r.length := List.length_pos_iff.mpr hr
  have hc : Canon f b.length r.length := by
    refine ⟨rp, hf ▸ sq_per _ (Nat.le_refl _), hm, fun n hn => Nat.le_of_not_lt fun z => ?_⟩
    have hb : b ≠ [] := fun e => by rw [e] at z; exact absurd z (Nat.not_lt_zero _)
    refine he b.dropLast (b.getLast hb) (List.dropLast_concat_getLast hb).symm r.dropLast ?_
    have e := hn (b.length - 1) (by omega)
    rw [← hf, sq_ge (by omega), sq_lt (by omega), show b.length - 1 + r.length - b.length = r.length - 1 by omega, Nat.mod_eq_of_lt (by omega), List.getD_eq_getElem?_getD, List.getD_eq_getElem?_getD, ← List.getLast?_eq_getElem?, ← List.getLast?_eq_getElem?, List.getLast?_eq_getLast hb, List.getLast?_eq_getLast hr] at e
    have e : r.getLast hr = b.getLast hb := e
    rw [← e]
    exact (List.dropLast_concat_getLast hr).symm
  rw [told_eq hc, ← hf, sq_seg0, sq_seg1]
theorem short_min {b r r0 : List Int} (h : Short r r0) : ∀ q n, 1 ≤ q → Per (sq b r) n q → r0.length ≤ q := fun q n hq hp => h.minp q n hq fun i hi => by
  have := hp (b.length + i) (by omega)
  rw [sq_tail] at this
  rw [← this, Nat.add_assoc, sq_tail]
end EL

set_option Elab.async false
set_option linter.all false
set_option maxRecDepth 100000
set_option maxHeartbeats 4000000
set_option autoImplicit false
namespace EL
open PySem PySem.Spec PyProof.Rows L2
/-- a def that only reads: the answer is some data of which C is so -/
def relSp {α β : Type} (K : PySem.W.Frag) (args : α → List PyData) (pre : α → Prop) (C : α → β → Prop) (res : β → PyData) : Sp := fun vs H Q _ =>
  ∃ (B : Bn) (a : α), BOk B H ∧ imAll K B (args a) vs H ∧ pre a ∧ ∀ b v H', C a b → Ex H H' → im K B (res b) v H' → Q v H'
theorem relSp.len {α β : Type} {K : PySem.W.Frag} {args : α → List PyData} {pre : α → Prop} {C : α → β → Prop} {res : β → PyData} {n : Nat} (h : ∀ a, (args a).length = n) {vs : List V} {H : Hp} {Q : VK} {E : XK} (q : relSp K args pre C res vs H Q E) : vs.length = n := by
  obtain ⟨B, a, _, h1, _⟩ := q
  rw [imAll_len h1]; exact h a
/-- a def that uses the hand -/
def handSp {α β : Type} (K : PySem.W.Frag) (args : α → List PyData) (pre : α → Prop) (C : α → β → Prop) (res : β → PyData) : Sp := fun vs H Q _ =>
  ∃ (B : Bn) (h l : Addr) (a : α) (us : List V), Has B h l ∧ BOk B H ∧ HandOk h l H ∧ vs = .ref h :: us ∧ imAll K B (args a) us H ∧ pre a ∧ ∀ b v H', C a b → Rh h l H H' → im K B (res b) v H' → Q v H'
theorem handSp.len {α β : Type} {K : PySem.W.Frag} {args : α → List PyData} {pre : α → Prop} {C : α → β → Prop} {res : β → PyData} {n : Nat} (h : ∀ a, (args a).length = n) {vs : List V} {H : Hp} {Q : VK} {E : XK} (q : handSp K args pre C res vs H Q E) : vs.length = n + 1 := by
  obtain ⟨B, _, _, a, us, _, _, _, rfl, h1, _⟩ := q
  rw [List.length_cons, imAll_len h1, h a]
theorem SD.startH {K : PySem.W.Frag} {B : Bn} {H : Hp} {N : List Str} {ds : List PyData} {us : List V} {h : Addr} (o : BOk B H) (hv : imAll K B ds us H) :
    SD B H (L2.start N (.ref h :: us)) (some (isP (.ref h)) :: (ds.map (fun d => some (im K B d)) ++ List.replicate (N.length - (ds.length + 1)) none)) := by
  have hl := imAll_len hv
  refine ⟨o, ?_, fun i p e => ?_⟩
  · unfold L2.start
    simp only [List.length_append, List.length_map, List.length_replicate, List.length_cons, hl]
    omega
  · cases i with
    | zero =>
      cases e
      exact ⟨inferInstance, .ref h, rfl, rfl⟩
    | succ i =>
      have e : (ds.map (fun d => some (im K B d)) ++ List.replicate (N.length - (ds.length + 1)) none)[i]? = some (some p) := e
      by_cases hi : i < ds.length
      · rw [List.getElem?_append_left (by rw [List.length_map]; exact hi), List.getElem?_map, List.getElem?_eq_getElem hi] at e
        have e2 : im K B ds[i] = p := by simpa using e
        obtain ⟨v, h1, h2⟩ := imAll_get hv (List.getElem?_eq_getElem hi)
        subst e2
        refine ⟨inferInstance, v, ?_, h2⟩
        unfold L2.start
        show ((us.map some ++ List.replicate (N.length - (us.length + 1)) none))[i]? = _
        rw [List.getElem?_append_left (by rw [List.length_map, hl]; exact hi), List.getElem?_map, h1]
        rfl
      · rw [List.getElem?_append_right (by rw [List.length_map]; omega), List.getElem?_replicate] at e
        split at e <;> simp at e
section
variable {R : Hp → Hp → Prop} {B : Bn} [rk : Rok B R] {K : PySem.W.Frag} {δ : List (Option PV)} {H H' : Hp}
theorem ev_callR {α β : Type} {args : α → List PyData} {pre : α → Prop} {C : α → β → Prop} {res : β → PyData} {E : XK} {ta : TA} (a : α) (h : EvA R B ta δ H ((args a).map (im K B))) (hp : pre a) :
    Ev R B (tCall (relSp K args pre C res) [] E ta) δ H (exP (C a) fun b => im K B (res b)) := fun σ H1 r S Q k =>
  h σ H1 r S _ fun vs H2 r2 pr => by
    show relSp K args pre C res (vs ++ []) H2 Q E
    rw [List.append_nil]
    exact ⟨B, a, S.ok.mono (rk.rb r2), imAll_of_pAll pr, hp, fun b v H3 c e3 hv => k v H3 (rk.tr r2 (rk.ex e3)) ⟨b, c, hv⟩⟩
/-- the answer of a call where what is handed in is open -/
theorem ev_callN {α : Type} {args : α → List PyData} {pre : α → Prop} {res : α → PyData} {E : XK} {ta : TA} {ps : List PV} {A : α → Prop} (h : EvA R B ta δ H ps) (hc : ∀ us H1, R H H1 → pAll ps us H1 → ∃ a, A a ∧ imAll K B (args a) us H1) (hp : ∀ a, A a → pre a) :
    Ev R B (tCall (pureSp K args pre res) [] E ta) δ H (exP A fun a => im K B (res a)) := fun σ H1 r S Q k =>
  h σ H1 r S _ fun vs H2 r2 pr => by
    show pureSp K args pre res (vs ++ []) H2 Q E
    rw [List.append_nil]
    obtain ⟨a, ha, hv⟩ := hc vs H2 (rk.tr r r2) pr
    exact ⟨B, a, S.ok.mono (rk.rb r2), hv, hp a ha, fun v H3 e3 hv => k v H3 (rk.tr r2 (rk.ex e3)) ⟨a, ha, hv⟩⟩
/-- *first, last = a tuple -/
theorem st_star {te : TE} {D : Ends} {σ : L2.St} {i j : Nat} {ds : List PyData} {d : PyData} (S : SD B H σ δ) (h : Ev R B te δ H (im K B (.tuple (ds ++ [d])))) (hl : ds.length ≤ 16000)
    (k : ∀ σ' H2, R H H2 → SD B H2 σ' ((δ.set i (some (im K B (.list ds)))).set j (some (im K B d))) → D.nx σ' H2) : tAsg te (gStarLast K i j) D σ H :=
  h σ H (rk.rf H) S _ fun v H2 r2 ⟨a, vs, ev, s, hv⟩ => by
    have ln := imAll_len hv
    rw [List.length_append] at ln
    have hv1 := imAll_take ds.length hv
    have hv2 := imAll_drop ds.length hv
    rw [List.take_left] at hv1
    rw [List.drop_left] at hv2
    obtain ⟨y, rr, e1, hy, e2⟩ := hv2
    cases (show rr = [] from e2)
    have e3 : vs = vs.take ds.length ++ [y] := by rw [← e1, List.take_append_drop]
    rw [e3] at s
    refine ⟨a, _, y, ev, s, by rw [List.length_take]; omega, fun p hp => ?_⟩
    have ex : Ex H2 (upd H2 p (.lst (vs.take ds.length))) := Ex.new hp
    have S3 := (S.mono (rk.rb r2)).mono (RB.of_ex ex)
    exact k _ _ (rk.tr r2 (rk.ex ex)) ((S3.set (p := im K B (.list ds)) ⟨p, _, rfl, not_ban (S.ok.mono (rk.rb r2)) hp, sqL_of upd_same, imAll_st (RB.of_ex ex) _ _ hv1⟩).set (p := im K B d) (im_st (RB.of_ex ex) _ _ hy))
end
section
variable {B : Bn} {h l : Addr} [hs : Has B h l] {K : PySem.W.Frag} {δ : List (Option PV)} {H : Hp} {t0 : TE} {E : XK}
theorem ev_hand {α β : Type} {args : α → List PyData} {pre : α → Prop} {C : α → β → Prop} {res : β → PyData} {ta : TA} {ps : List PV} {A : α → Prop} (hk : HandOk h l H) (h0 : Ev (Rh h l) B t0 δ H (isP (.ref h))) (ha : EvA (Rh h l) B ta δ H ps)
    (hc : ∀ us H1, pAll ps us H1 → ∃ a, A a ∧ imAll K B (args a) us H1) (hp : ∀ a, A a → pre a) :
    Ev (Rh h l) B (tCall (handSp K args pre C res) [] E (tCons t0 ta)) δ H (exP (fun b => ∃ a, A a ∧ C a b) fun b => im K B (res b)) := fun σ H1 r1 S Q k =>
  h0 σ H1 r1 S _ fun x H2 r2 ex => ha σ H2 (Rok.tr B r1 r2) (S.mono (Rok.rb r2)) _ fun us H3 r3 pr => by
    show handSp K args pre C res ((x :: us) ++ []) H3 Q E
    rw [List.append_nil]
    obtain ⟨a, aa, hv⟩ := hc us H3 pr
    exact ⟨B, h, l, a, us, hs, S.ok.mono (Rok.rb (Rok.tr B r2 r3)), r3.ok (r2.ok (r1.ok hk)), by rw [show x = _ from ex], hv, hp a aa, fun b v H4 c r4 hv => k v H4 (Rok.tr B (Rok.tr B r2 r3) r4) ⟨b, ⟨a, aa, c⟩, hv⟩⟩
theorem ev_handI {α β : Type} {args : α → List PyData} {pre : α → Prop} {C : α → β → Prop} {res : β → PyData} {ta : TA} (a : α) (hk : HandOk h l H) (h0 : Ev (Rh h l) B t0 δ H (isP (.ref h))) (ha : EvA (Rh h l) B ta δ H ((args a).map (im K B))) (hp : pre a) :
    Ev (Rh h l) B (tCall (handSp K args pre C res) [] E (tCons t0 ta)) δ H (exP (C a) fun b => im K B (res b)) :=
  (ev_hand (A := (· = a)) hk h0 ha (fun us H1 pr => ⟨a, rfl, imAll_of_pAll pr⟩) fun a' e => e ▸ hp).conv fun v H1 _ ⟨b, ⟨a', e, c⟩, hv⟩ => ⟨b, e ▸ c, hv⟩
end
/-! ### rows of ints -/
theorem shaped_tI (ns : List Int) : SeqAt.shaped (tI ns) = true := by
  unfold SeqAt.shaped
  have h1 := canLayAll_ints ns
  have h2 := depthAll_ints ns
  simp only [PyData.canLay0, h1, PyData.depth, Bool.true_and]
  exact decide_eq_true (by omega)
theorem eqvAll_ints : ∀ xs ys : List Int, PyData.eqvAll (xs.map .int) (ys.map .int) = decide (xs = ys)
  | [], [] => by simp [PyData.eqvAll]
  | [], y :: ys => by simp [PyData.eqvAll]
  | x :: xs, [] => by simp [PyData.eqvAll]
  | x :: xs, y :: ys => by
    simp only [List.map_cons, PyData.eqvAll, PyData.eqv, eqvAll_ints xs ys]
    by_cases h1 : x = y <;> by_cases h2 : xs = ys <;> simp [h1, h2]
theorem eqv_tI (xs ys : List Int) : PyData.eqv (tI xs) (tI ys) = decide (xs = ys) := by
  simp only [PyData.eqv, eqvAll_ints]
theorem shaped_wd (b r : List Int) : SeqAt.shaped (wd b r) = true := by
  unfold SeqAt.shaped
  have h1 := canLayAll_ints b
  have h2 := depthAll_ints b
  have h3 := canLayAll_ints r
  have h4 := depthAll_ints r
  simp only [PyData.canLay0, PyData.canLayAll0, h1, h3, PyData.depth, PyData.depthAll, Bool.true_and, Bool.and_self]
  exact decide_eq_true (by omega)
theorem eqv_wd (b r b' r' : List Int) : PyData.eqv (wd b r) (wd b' r') = decide ((b, r) = (b', r')) := by
  simp only [PyData.eqv, PyData.eqvAll, eqvAll_ints, Bool.and_true]
  by_cases h1 : b = b' <;> by_cases h2 : r = r' <;> simp [h1, h2]
theorem cut_init {α : Type} {xs : List α} {y : α} : cut (xs ++ [y]) none (some (-1)) = xs := by
  unfold cut
  have e : HT.sIx (xs ++ [y]).length (xs ++ [y]).length (some (-1)) = xs.length := by
    show (if (-1 : Int) < 0 then ((-1 : Int) + ((xs ++ [y]).length : Nat)).toNat else min (-1 : Int).toNat (xs ++ [y]).length) = _
    rw [if_pos (by decide), List.length_append]
    simp only [List.length_cons, List.length_nil]
    omega
  rw [e, HT.sIx_none, List.drop_zero, Nat.sub_zero, List.take_left]
theorem atI_lastI {c : List Int} {x : Int} : atI ((c ++ [x]).map PyData.int) (-1) = some (.int x) := by
  rw [List.map_append]
  exact atI_last _ _
theorem ev_slI {R : Hp → Hp → Prop} {B : Bn} [rk : Rok B R] {K : PySem.W.Frag} {δ : List (Option PV)} {H : Hp} {te : TE} {tl th : TO} {lo hi : Option Int} {ns ms : List Int} (h : Ev R B te δ H (im K B (tI ns))) (h1 : EvO R B tl δ H lo) (h2 : EvO R B th δ H hi)
    (e : cut ns lo hi = ms) : Ev R B (tSl (rSlU K) te tl th) δ H (im K B (tI ms)) := (ev_slT h h1 h2).is (by
  subst e
  show im K B (.tuple (cut (ns.map PyData.int) lo hi)) = im K B (.tuple ((cut ns lo hi).map PyData.int))
  congr 2
  unfold cut
  rw [List.length_map, List.map_take, List.map_drop])
theorem ev_repI {R : Hp → Hp → Prop} {B : Bn} [rk : Rok B R] {K : PySem.W.Frag} {δ : List (Option PV)} {H : Hp} {ta tb : TE} {ns ms : List Int} {k : Int} (ha : Ev R B ta δ H (im K B (tI ns))) (hb : Ev R B tb δ H (im K B (.int k))) (h0 : 0 ≤ k) (h1 : k ≤ 1000) (hl : ns.length ≤ 1000)
    (e : (List.replicate k.toNat ns).flatten = ms) : Ev R B (tOp (rMulU K) ta tb) δ H (im K B (tI ms)) := (ev_rep ha hb h0 h1 (by rw [List.length_map]; exact hl)).is (by
  subst e
  show im K B (.tuple _) = im K B (.tuple ((List.replicate k.toNat ns).flatten.map PyData.int))
  congr 2
  rw [List.map_flatten, List.map_replicate])
theorem ev_catI {R : Hp → Hp → Prop} {B : Bn} [rk : Rok B R] {K : PySem.W.Frag} {δ : List (Option PV)} {H : Hp} {ta tb : TE} {ns ms : List Int} (ha : Ev R B ta δ H (im K B (tI ns))) (hb : Ev R B tb δ H (im K B (tI ms))) (hl : ns.length + ms.length ≤ 1000000) : Ev R B (tOp (rAddU K) ta tb) δ H (im K B (tI (ns ++ ms))) :=
  (ev_catT ha hb (by rw [List.length_map, List.length_map]; exact Nat.le_trans hl (by decide))).is (by rw [← List.map_append])
theorem ev_lenI {R : Hp → Hp → Prop} {B : Bn} [rk : Rok B R] {K : PySem.W.Frag} {δ : List (Option PV)} {H : Hp} {ta : TE} {ns : List Int} (ha : Ev R B ta δ H (im K B (tI ns))) : Ev R B (tCB (rLenQ K) (tCons ta tNil)) δ H (im K B (.int ns.length)) := (ev_lenT ha).is (by rw [List.length_map])
end EL

set_option Elab.async false
set_option linter.all false
set_option maxRecDepth 100000
set_option maxHeartbeats 4000000
set_option autoImplicit false
namespace EL
open PySem PySem.Spec PyProof.Rows L2
/-! ### the rules with the written part by its name -/
section
variable {X : Cx} (K : PySem.W.Frag)
theorem op_addK (h : X.K = K := by rfl) : OpR X (binaryOp .Add) (rAddU K) := h ▸ op_addU
theorem op_mulK (h : X.K = K := by rfl) : OpR X (binaryOp .Mult) (rMulU K) := h ▸ op_mulU
theorem op_eqK (hu : X.A.units + 64 < cLine) (h : X.K = K := by rfl) : OpR X (compareOp .Eq) (rEqU K) := h ▸ op_eqU hu
theorem op_neK (hu : X.A.units + 64 < cLine) (h : X.K = K := by rfl) : OpR X (compareOp .NotEq) (rNeU K) := h ▸ op_neU hu
theorem sl_seqK (h : X.K = K := by rfl) : SlR X (rSlU K) := h ▸ sl_seqU
theorem ix_seqK (h : X.K = K := by rfl) : IxR X (rIx K) := h ▸ ix_seq
theorem op_inK (h : X.K = K := by rfl) : OpR X (compareOp .In) (rIn K false) := h ▸ op_in_seq
theorem op_notInK (h : X.K = K := by rfl) : OpR X (compareOp .NotIn) (rIn K true) := h ▸ op_notIn_seq
theorem call_lenK (h : X.K = K := by rfl) : CallR X (.builtin "len") (rLenQ K) := h ▸ call_len_seq
theorem call_tupleK (h : X.K = K := by rfl) : CallR X (.type "tuple") (rTupQ K) := h ▸ call_tuple_of
theorem call_listK (h : X.K = K := by rfl) : CallR X (.type "list") (rListQ K) := h ▸ call_list_of
theorem call_isiK (h : X.K = K := by rfl) : CallR X (.builtin "isinstance") (rIsi K) := h ▸ call_isi
theorem call_reprK (gd : X.A.guards = some []) (hu : X.A.units + 66 < cLine) (h : X.K = K := by rfl) : CallR X (.builtin "repr") (rReprD K) := h ▸ call_reprD gd hu
theorem cr_anyK (hc : X.calm = true) (h : X.K = K := by rfl) : CallR X (.builtin "any") (rAny K) := h ▸ cr_any hc
theorem cr_allK (hc : X.calm = true) (h : X.K = K := by rfl) : CallR X (.builtin "all") (rAll K) := h ▸ cr_all hc
theorem pi_seqK {tg l : Expr} {t : TE} (e : PE X l t) (h : X.K = K := by rfl) : PI X tg l (iSeqU K t) := h ▸ pi_seqU e
theorem pi_listK {tg l : Expr} {t : TE} (e : PE X l t) (h : X.K = K := by rfl) : PI X tg l (iList K t) := h ▸ pi_list e
end
section
variable {R : Hp → Hp → Prop} {B : Bn} [rk : Rok B R] {K : PySem.W.Frag} {δ : List (Option PV)} {H : Hp} {ta tb te : TE} {tt tu : TT} {D : Ends} {σ : L2.St} {t u : TS}
theorem ev_any {bs : List Bool} (ha : Ev R B ta δ H (im K B (.list (bs.map .bool)))) : Ev R B (tCB (rAny K) (tCons ta tNil)) δ H (im K B (.bool (bs.any id))) :=
  ev_cb (ea_cons ha ea_nil) fun vs H1 _ _ ⟨v, r, e, ⟨a, xs, e1, _, s, h⟩, e2⟩ Q k => by
    subst e e1; cases (show r = [] from e2)
    rw [imAll_bools.mp h] at s
    exact ⟨a, bs, rfl, s, k _ H1 (rk.rf H1) rfl⟩
theorem ev_all {bs : List Bool} (ha : Ev R B ta δ H (im K B (.list (bs.map .bool)))) : Ev R B (tCB (rAll K) (tCons ta tNil)) δ H (im K B (.bool (bs.all id))) :=
  ev_cb (ea_cons ha ea_nil) fun vs H1 _ _ ⟨v, r, e, ⟨a, xs, e1, _, s, h⟩, e2⟩ Q k => by
    subst e e1; cases (show r = [] from e2)
    rw [imAll_bools.mp h] at s
    exact ⟨a, bs, rfl, s, k _ H1 (rk.rf H1) rfl⟩
/-- tests whose answer is open -/
theorem st_ifx {C : Bool → Prop} (S : SD B H σ δ) (h : EvTx R B tt δ H C) (k1 : C true → ∀ H2, R H H2 → SD B H2 σ δ → t D σ H2) (k2 : C false → ∀ H2, R H H2 → SD B H2 σ δ → u D σ H2) : tIfS tt t u D σ H :=
  h σ H (rk.rf H) S _ fun b H2 c r2 => by
    cases b with
    | true => exact k1 c H2 r2 (S.mono (rk.rb r2))
    | false => exact k2 c H2 r2 (S.mono (rk.rb r2))
theorem etx_and {C1 C2 : Bool → Prop} (h1 : EvTx R B tt δ H C1) (h2 : C1 true → ∀ H1, R H H1 → EvTx R B tu δ H1 C2) : EvTx R B (tAnd tt tu) δ H (fun b => (b = false ∧ C1 false) ∨ (C1 true ∧ C2 b)) := fun σ H1 r S Q k => h1 σ H1 r S _ fun a H2 c r2 => by
  cases a with
  | true => exact h2 c H2 (rk.tr r r2) σ H2 (rk.rf H2) (S.mono (rk.rb r2)) Q fun b H3 c3 r3 => k b H3 (.inr ⟨c, c3⟩) (rk.tr r2 r3)
  | false => exact k false H2 (.inl ⟨rfl, c⟩) r2
theorem etx_or {C1 C2 : Bool → Prop} (h1 : EvTx R B tt δ H C1) (h2 : C1 false → ∀ H1, R H H1 → EvTx R B tu δ H1 C2) : EvTx R B (tOr tt tu) δ H (fun b => (b = true ∧ C1 true) ∨ (C1 false ∧ C2 b)) := fun σ H1 r S Q k => h1 σ H1 r S _ fun a H2 c r2 => by
  cases a with
  | true => exact k true H2 (.inl ⟨rfl, c⟩) r2
  | false => exact h2 c H2 (rk.tr r r2) σ H2 (rk.rf H2) (S.mono (rk.rb r2)) Q fun b H3 c3 r3 => k b H3 (.inr ⟨c, c3⟩) (rk.tr r2 r3)
theorem etx_not {C : Bool → Prop} (h : EvTx R B tt δ H C) : EvTx R B (tNot tt) δ H (fun b => C (!b)) := fun σ H1 r S Q k => h σ H1 r S _ fun b H2 c r2 => k (!b) H2 (by show C (!!b); rw [Bool.not_not]; exact c) r2
theorem etx_B {C : Bool → Prop} (h : Ev R B te δ H (exP C fun b => im K B (.bool b))) : EvTx R B (tB te) δ H C := fun σ H1 r S Q k => h σ H1 r S _ fun v H2 r2 ⟨b, c, e⟩ => ⟨b, e, k b H2 c r2⟩
theorem etx_test {C : Bool → Prop} (h : Ev R B te δ H (exP C fun b => im K B (.bool b))) : EvTx R B (tTest te) δ H C := fun σ H1 r S Q k => h σ H1 r S _ fun v H2 r2 ⟨b, c, e⟩ => ⟨b, e, k b H2 c r2⟩
theorem EvTx.conv {C C' : Bool → Prop} (h : EvTx R B tt δ H C) (c : ∀ b, C b → C' b) : EvTx R B tt δ H C' := fun σ H1 r S Q k => h σ H1 r S Q fun b H2 z r2 => k b H2 (c b z) r2
theorem EvTx.at_ {C : Bool → Prop} {H' : Hp} (h : EvTx R B tt δ H C) (r : R H H') : EvTx R B tt δ H' C := fun σ H2 r2 => h σ H2 (rk.tr r r2)
theorem ev_eqN {C : Int → Prop} {j : Int} (ha : Ev R B ta δ H (intP C)) (hb : Ev R B tb δ H (im K B (.int j))) : Ev R B (tOp (rEqU K) ta tb) δ H (exP (fun b => ∃ i, C i ∧ b = decide (i = j)) fun b => im K B (.bool b)) :=
  ev_op ha hb fun x y H1 _ _ ⟨i, c, hx⟩ hy Q k => .inr ⟨by rw [hx, show y = _ from hy]; rfl, k _ H1 (Ex.refl H1) ⟨decide (i = j), ⟨i, c, rfl⟩, by rw [hx, show y = _ from hy]; show V.bl _ = V.bl _; congr 1; by_cases z : i = j <;> simp [z]⟩⟩
/-- list comprehensions that tell just one list -/
theorem ev_lcMap [rm : Rmk R] {wi : TI} {v n : Nat} {Y : Nat → PV} [∀ i, Stb B (Y i)] (f : Nat → PyData) (hs : Src R B wi δ H n Y) (hn : n ≤ sizeLine) (hp : ∀ i, i < n → plain (f i) = true)
    (he : ∀ i Hc, i < n → R H Hc → Ev R B te ((δ.set v none).set v (some (Y i))) Hc (im K B (f i))) : Ev R B (tLc wi (gName v) tYes te [v]) δ H (im K B (.list ((List.range n).map f))) :=
  (ev_lc (K := K) (fun i ds => ds = (List.range i).map f) hs hn rfl fun i ds Hc hi e r => ⟨_, etx_yes, (fun z => Bool.noConfusion z), fun _ Hd rd => ⟨_, ev_one (he i Hd hi (rk.tr r rd)), fun d ed => ⟨by rw [ed]; exact hp i hi, by rw [e, ed, List.range_succ, List.map_append]; rfl⟩⟩⟩).conv
    fun v H1 _ ⟨ds, e, hv⟩ => e ▸ hv
theorem ev_lcFilter [rm : Rmk R] {wi : TI} {v n : Nat} {Y : Nat → PV} [∀ i, Stb B (Y i)] (f : Nat → PyData) (p : Nat → Bool) (hs : Src R B wi δ H n Y) (hn : n ≤ sizeLine) (hp : ∀ i, i < n → plain (f i) = true)
    (ht : ∀ i Hc, i < n → R H Hc → EvT R B tt ((δ.set v none).set v (some (Y i))) Hc (p i)) (he : ∀ i Hc, i < n → p i = true → R H Hc → Ev R B te ((δ.set v none).set v (some (Y i))) Hc (im K B (f i))) : Ev R B (tLc wi (gName v) tt te [v]) δ H (im K B (.list (((List.range n).filter p).map f))) :=
  (ev_lc (K := K) (fun i ds => ds = ((List.range i).filter p).map f) hs hn rfl fun i ds Hc hi e r => ⟨_, etx_of (ht i Hc hi r), fun z => by rw [e, List.range_succ, List.filter_append, List.map_append]; simp [z.symm], fun z Hd rd => ⟨_, ev_one (he i Hd hi z.symm (rk.tr r rd)), fun d ed => ⟨by rw [ed]; exact hp i hi, by rw [e, ed, List.range_succ, List.filter_append, List.map_append]; simp [z.symm]⟩⟩⟩).conv
    fun v H1 _ ⟨ds, e, hv⟩ => e ▸ hv
theorem ev_slLI {tl th : TO} {lo hi : Option Int} {ns ms : List Int} (h : Ev R B te δ H (im K B (.list (ns.map .int)))) (h1 : EvO R B tl δ H lo) (h2 : EvO R B th δ H hi) (e : cut ns lo hi = ms) : Ev R B (tSl (rSlU K) te tl th) δ H (im K B (.list (ms.map .int))) := (ev_slL h h1 h2).is (by
  subst e
  congr 2
  unfold cut
  rw [List.length_map, List.map_take, List.map_drop])
end
theorem cut_mid {α : Type} {xs : List α} {n m : Nat} : cut xs (some (n : Int)) (some (m : Int)) = (xs.drop n).take (m - n) := by
  unfold cut
  rw [HT.sIx_nat, HT.sIx_nat]
  rcases Nat.le_total n xs.length with h | h
  · rw [Nat.min_eq_left h]
    rcases Nat.le_total m xs.length with h2 | h2
    · rw [Nat.min_eq_left h2]
    · rw [Nat.min_eq_right h2, List.take_of_length_le (by rw [List.length_drop]; omega), List.take_of_length_le (by rw [List.length_drop]; omega)]
  · rw [Nat.min_eq_right h, List.drop_of_length_le h, List.drop_of_length_le (Nat.le_refl _), List.take_nil, List.take_nil]
theorem map_int_range (f : Nat → Int) (n : Nat) : (List.range n).map (fun i => PyData.int (f i)) = (seg f 0 n).map .int := by
  unfold seg
  rw [List.map_map]
  congr 1
  funext i
  show PyData.int (f i) = PyData.int (f (0 + i))
  rw [Nat.zero_add]
theorem seg_take {f : Nat → Int} {a p n : Nat} (h : n ≤ p) : (seg f a p).take n = seg f a n := by
  unfold seg
  rw [← List.map_take, List.take_range, Nat.min_eq_left h]
theorem seg_drop {f : Nat → Int} {a p n : Nat} : (seg f a p).drop n = seg f (a + n) (p - n) := getD_ext (by rw [List.length_drop, seg_len, seg_len]) fun i hi => by
  rw [List.length_drop, seg_len] at hi
  rw [seg_get (by omega), List.getD_eq_getElem?_getD, List.getElem?_drop, ← List.getD_eq_getElem?_getD, seg_get (by omega), Nat.add_assoc]
/-- a period tells the sequence -/
theorem sq_of_per {f : Nat → Int} {n p : Nat} (hp : 1 ≤ p) (h : Per f n p) : sq (seg f 0 n) (seg f n p) = f := funext fun i => by
  by_cases z : i < n
  · rw [sq_lt (by rw [seg_len]; exact z), seg_get z, Nat.zero_add]
  · rw [sq_ge (by rw [seg_len]; omega), seg_len, seg_len, seg_get (Nat.mod_lt _ hp)]
    have := h.mul ((i - n) / p) (n + (i - n) % p) (by omega)
    rw [← this]
    congr 1
    have := Nat.mod_add_div (i - n) p
    omega
theorem told_len {b r : List Int} (hr : r ≠ []) : (told (sq b r)).1.length ≤ b.length ∧ (told (sq b r)).2.length ≤ r.length ∧ (told (sq b r)).2 ≠ [] := by
  have rp : 1 ≤ r.length := List.length_pos_iff.mpr hr
  obtain ⟨a, p, hc⟩ := Canon.ex rp (sq_per (b := b) (r := r) b.length (Nat.le_refl _))
  rw [told_eq hc, seg_len, seg_len]
  refine ⟨hc.mina _ ((sq_per b.length (Nat.le_refl _)).down rp hc.per), hc.minp _ _ rp (sq_per b.length (Nat.le_refl _)), fun e => ?_⟩
  have := congrArg List.length e
  rw [seg_len] at this
  have := hc.pos
  simp at *
  omega
theorem told_mem {b r : List Int} (hr : r ≠ []) {P : Int → Prop} (hb : ∀ x ∈ b, P x) (h2 : ∀ x ∈ r, P x) : (∀ x ∈ (told (sq b r)).1, P x) ∧ ∀ x ∈ (told (sq b r)).2, P x := by
  have rp : 1 ≤ r.length := List.length_pos_iff.mpr hr
  have all : ∀ i, P (sq b r i) := fun i => by
    by_cases z : i < b.length
    · rw [sq_lt z, List.getD_eq_getElem?_getD, List.getElem?_eq_getElem z]
      exact hb _ (List.getElem_mem z)
    · rw [sq_ge (by omega)]
      have hm := Nat.mod_lt (i - b.length) rp
      rw [List.getD_eq_getElem?_getD, List.getElem?_eq_getElem hm]
      exact h2 _ (List.getElem_mem hm)
  obtain ⟨a, p, hc⟩ := Canon.ex rp (sq_per (b := b) (r := r) b.length (Nat.le_refl _))
  rw [told_eq hc]
  constructor
  all_goals
    intro x hx
    unfold seg at hx
    obtain ⟨i, _, rfl⟩ := List.mem_map.mp hx
    exact all _
theorem sq_told {b r : List Int} (hr : r ≠ []) : sq (told (sq b r)).1 (told (sq b r)).2 = sq b r := by
  have rp : 1 ≤ r.length := List.length_pos_iff.mpr hr
  obtain ⟨a, p, hc⟩ := Canon.ex rp (sq_per (b := b) (r := r) b.length (Nat.le_refl _))
  rw [told_eq hc]
  exact sq_of_per hc.pos hc.per
end EL

set_option Elab.async false
set_option linter.all false
set_option maxRecDepth 100000
set_option maxHeartbeats 4000000
set_option autoImplicit false
namespace EL
open PySem PySem.Spec PyProof.Rows L2
/-! ### a statement and what follows -/
section
variable {R : Hp → Hp → Prop} {B : Bn} [rk : Rok B R] {K : PySem.W.Frag} {δ : List (Option PV)} {H H' : Hp} {to ti te : TE} {p q w : PV} {tt : TT} {D : Ends} {σ : L2.St} {t u e : TS} {i j l : Nat}
theorem sq_set [Stb B p] (S : SD B H σ δ) (h : Ev R B te δ H p) (k : ∀ σ' H2, R H H2 → SD B H2 σ' (δ.set i (some p)) → u D σ' H2) : tSeq (tAsg te (gName i)) u D σ H := st_seq (st_set S h k)
theorem sq_setx {α : Type} {C : α → Prop} {q : α → PV} [∀ a, Stb B (q a)] (S : SD B H σ δ) (h : Ev R B te δ H (exP C q)) (k : ∀ a σ' H2, C a → R H H2 → SD B H2 σ' (δ.set i (some (q a))) → u D σ' H2) : tSeq (tAsg te (gName i)) u D σ H := st_seq (st_setx S h k)
theorem sq_par {ta : TA} [Stb B p] [Stb B q] (S : SD B H σ δ) (h : EvA R B ta δ H [p, q]) (k : ∀ σ' H2, R H H2 → SD B H2 σ' ((δ.set i (some p)).set j (some q)) → u D σ' H2) : tSeq (tPar i j ta) u D σ H := st_seq (st_par S h k)
theorem sq_par3 {ta : TA} [Stb B p] [Stb B q] [Stb B w] (S : SD B H σ δ) (h : EvA R B ta δ H [p, q, w]) (k : ∀ σ' H2, R H H2 → SD B H2 σ' (((δ.set i (some p)).set j (some q)).set l (some w)) → u D σ' H2) : tSeq (tPar3 i j l ta) u D σ H := st_seq (st_par3 S h k)
theorem sq_unpack2 {d e : PyData} (S : SD B H σ δ) (h : Ev R B te δ H (im K B (.tuple [d, e]))) (k : ∀ σ' H2, R H H2 → SD B H2 σ' ((δ.set i (some (im K B d))).set j (some (im K B e))) → u D σ' H2) : tSeq (tAsg te (gTup K 2 (gCons (gName i) (gCons (gName j) gNil)))) u D σ H := st_seq (st_unpack2 S h k)
theorem sq_tup2 {ta : TA} [Stb B p] [Stb B q] (S : SD B H σ δ) (h : EvA R B ta δ H [p, q]) (k : ∀ σ' H2, R H H2 → SD B H2 σ' ((δ.set i (some p)).set j (some q)) → u D σ' H2) : tSeq (tAsg (tTup ta) (gTup K 2 (gCons (gName i) (gCons (gName j) gNil)))) u D σ H := st_seq (st_tup2 S h k)
theorem sq_expr (S : SD B H σ δ) (h : Ev R B te δ H p) (k : ∀ H2, R H H2 → SD B H2 σ δ → u D σ H2) : tSeq (tDrop te) u D σ H := st_seq (st_expr S h k)
theorem sq_star {ds : List PyData} {d : PyData} (S : SD B H σ δ) (h : Ev R B te δ H (im K B (.tuple (ds ++ [d])))) (hl : ds.length ≤ 16000) (k : ∀ σ' H2, R H H2 → SD B H2 σ' ((δ.set i (some (im K B (.list ds)))).set j (some (im K B d))) → u D σ' H2) : tSeq (tAsg te (gStarLast K i j)) u D σ H := st_seq (st_star S h hl k)
/-- an if whose way on is the other one -/
theorem sq_if {b : Bool} (S : SD B H σ δ) (h : EvT R B tt δ H b) (k1 : b = true → ∀ H2, R H H2 → SD B H2 σ δ → t { D with nx := u D } σ H2) (k2 : b = false → ∀ H2, R H H2 → SD B H2 σ δ → u D σ H2) : tSeq (tIfS tt t tNext) u D σ H := st_seq (st_if S h k1 k2)
theorem sq_ifx {C : Bool → Prop} (S : SD B H σ δ) (h : EvTx R B tt δ H C) (k1 : C true → ∀ H2, R H H2 → SD B H2 σ δ → t { D with nx := u D } σ H2) (k2 : C false → ∀ H2, R H H2 → SD B H2 σ δ → u D σ H2) : tSeq (tIfS tt t tNext) u D σ H := st_seq (st_ifx S h k1 k2)
/-- an if both of whose ways go on, J between -/
theorem cut_if {b : Bool} (J : L2.St → Hp → Prop) (S : SD B H σ δ) (h : EvT R B tt δ H b) (k1 : b = true → ∀ H2, R H H2 → SD B H2 σ δ → t { D with nx := J } σ H2) (k2 : b = false → ∀ H2, R H H2 → SD B H2 σ δ → e { D with nx := J } σ H2) (k : ∀ s Hc, J s Hc → u D s Hc) : C8.tCut (tIfS tt t e) u D σ H := ⟨J, st_if S h k1 k2, k⟩
theorem cut_ifx {C : Bool → Prop} (J : L2.St → Hp → Prop) (S : SD B H σ δ) (h : EvTx R B tt δ H C) (k1 : C true → ∀ H2, R H H2 → SD B H2 σ δ → t { D with nx := J } σ H2) (k2 : C false → ∀ H2, R H H2 → SD B H2 σ δ → e { D with nx := J } σ H2) (k : ∀ s Hc, J s Hc → u D s Hc) : C8.tCut (tIfS tt t e) u D σ H := ⟨J, st_ifx S h k1 k2, k⟩
theorem sq_for {wi : TI} {g : TG} {tb : TS} {n : Nat} {Y : Nat → PV} (S : SD B H σ δ) (hs : Src R B wi δ H n Y)
    (k : ∀ H0, R H H0 → SD B H0 σ δ → ∃ I : Nat → L2.St → Hp → Prop, I 0 σ H0 ∧ (∀ i s Hc, I i s Hc → RB B H0 Hc) ∧
      (∀ i x s Ha Hb, i < n → I i s Ha → Ex Ha Hb → Y i x Hb → g x s Hb fun σ2 H2 => tb { D with nx := I (i + 1), ct := I (i + 1), bk := u D } σ2 H2) ∧ ∀ s Hc, I n s Hc → u D s Hc) : tSeq (tFor wi g tb) u D σ H := st_seq (st_for S hs k)
/-- a for over one name -/
theorem sq_forN {wi : TI} {tb : TS} {n : Nat} {Y : Nat → PV} {v : Nat} [∀ i, Stb B (Y i)] (S : SD B H σ δ) (hs : Src R B wi δ H n Y) (δi : Nat → List (Option PV)) (J : Nat → Hp → Hp → Prop)
    (h0 : ∀ H0, R H H0 → SD B H0 σ δ → SD B H0 σ (δi 0) ∧ J 0 H0 H0)
    (turn : ∀ H0, R H H0 → ∀ i s Hc, i < n → RB B H0 Hc → J i H0 Hc → SD B Hc s ((δi i).set v (some (Y i))) → tb { D with nx := fun s' H' => RB B H0 H' ∧ J (i + 1) H0 H' ∧ SD B H' s' (δi (i + 1)), ct := fun s' H' => RB B H0 H' ∧ J (i + 1) H0 H' ∧ SD B H' s' (δi (i + 1)), bk := u D } s Hc)
    (jx : ∀ i H0 Ha Hb, Ex Ha Hb → J i H0 Ha → J i H0 Hb) (done : ∀ H0, R H H0 → ∀ s Hc, RB B H0 Hc → J n H0 Hc → SD B Hc s (δi n) → u D s Hc) : tSeq (tFor wi (gName v) tb) u D σ H :=
  sq_for S hs fun H0 r0 S0 => ⟨fun i s Hc => RB B H0 Hc ∧ J i H0 Hc ∧ SD B Hc s (δi i), ⟨RB.refl H0, (h0 H0 r0 S0).2, (h0 H0 r0 S0).1⟩, fun i s Hc z => z.1,
    fun i x s Ha Hb hi ⟨ra, ja, Sa⟩ e y => turn H0 r0 i _ Hb hi (ra.trans (RB.of_ex e)) (jx i H0 Ha Hb e ja) ((Sa.mono (RB.of_ex e)).set y), fun s Hc ⟨rc, jc, Sc⟩ => done H0 r0 s Hc rc jc Sc⟩
theorem st_forN {wi : TI} {tb : TS} {n : Nat} {Y : Nat → PV} {v : Nat} [∀ i, Stb B (Y i)] (S : SD B H σ δ) (hs : Src R B wi δ H n Y) (δi : Nat → List (Option PV)) (J : Nat → Hp → Hp → Prop)
    (h0 : ∀ H0, R H H0 → SD B H0 σ δ → SD B H0 σ (δi 0) ∧ J 0 H0 H0)
    (turn : ∀ H0, R H H0 → ∀ i s Hc, i < n → RB B H0 Hc → J i H0 Hc → SD B Hc s ((δi i).set v (some (Y i))) → tb { D with nx := fun s' H' => RB B H0 H' ∧ J (i + 1) H0 H' ∧ SD B H' s' (δi (i + 1)), ct := fun s' H' => RB B H0 H' ∧ J (i + 1) H0 H' ∧ SD B H' s' (δi (i + 1)), bk := D.nx } s Hc)
    (jx : ∀ i H0 Ha Hb, Ex Ha Hb → J i H0 Ha → J i H0 Hb) (done : ∀ H0, R H H0 → ∀ s Hc, RB B H0 Hc → J n H0 Hc → SD B Hc s (δi n) → D.nx s Hc) : tFor wi (gName v) tb D σ H :=
  st_for S hs fun H0 r0 S0 => ⟨fun i s Hc => RB B H0 Hc ∧ J i H0 Hc ∧ SD B Hc s (δi i), ⟨RB.refl H0, (h0 H0 r0 S0).2, (h0 H0 r0 S0).1⟩, fun i s Hc z => z.1,
    fun i x s Ha Hb hi ⟨ra, ja, Sa⟩ e y => turn H0 r0 i _ Hb hi (ra.trans (RB.of_ex e)) (jx i H0 Ha Hb e ja) ((Sa.mono (RB.of_ex e)).set y), fun s Hc ⟨rc, jc, Sc⟩ => done H0 r0 s Hc rc jc Sc⟩
theorem sq_while {tc : TT} {tb : TS} (W : Nat → L2.St → Hp → Prop) (m0 : Nat) (h0 : W m0 σ H)
    (hs : ∀ m s Hc, W m s Hc → ∃ δ b, SD B Hc s δ ∧ EvT R B tc δ Hc b ∧ (b = true → ∀ H1, R Hc H1 → SD B H1 s δ → tb { D with nx := fun s' H' => ∃ m', m' < m ∧ W m' s' H', ct := fun s' H' => ∃ m', m' < m ∧ W m' s' H', bk := u D } s H1) ∧ (b = false → ∀ H1, R Hc H1 → SD B H1 s δ → u D s H1)) : tSeq (tWhile tc tb) u D σ H := st_seq (st_while W m0 h0 hs)
theorem sq_append [Stb B q] {a : Addr} {vs : List V} (S : SD B H σ δ) (hi : δ[i]? = some (some (isP (.ref a)))) (hb : B a) (hp : H a = some (.lst vs)) (hl : vs.length < sizeLine) (he : Ev Ex B te δ H q)
    (k : ∀ v H3, SD B H3 σ δ → q v H3 → H3 a = some (.lst (vs ++ [v])) → RB B H H3 → u D σ H3) : tSeq (tDrop (tBM K "list" rAppend (tVar i) (tCons te tNil))) u D σ H := st_seq (st_append S hi hb hp hl he k)
end
theorem sq_hand {K : PySem.W.Frag} {N : List Str} {a : Addr} {ns : List Int} {n : Nat} {D : Ends} {u : TS} {H : Hp} {E : XK} (hN : N.length = n + 2) (hS : SqL K H a (ns.map .int)) (hl : ns.length ≤ 63)
    (k : ∀ h l σ' H1, Ex H H1 → HandOk h l H1 → SD (hB h l) H1 σ' (none :: some (isP (.ref h)) :: List.replicate n none) → u D σ' H1) : tSeq (tAsg (tCall (spHand K) [] E (tCons (tVar 0) tNil)) (gName 1)) u D (start N [.ref a]) H := st_seq (st_hand hN hS hl k)
end EL

set_option Elab.async false
set_option linter.all false
set_option maxRecDepth 100000
set_option maxHeartbeats 4000000
set_option autoImplicit false
namespace EL
open PySem PySem.Spec PyProof.Rows L2
theorem rv_cat {K : PySem.W.Frag} {B : Bn} {H : Hp} {ds es : List PyData} {x y : V} (hx : im K B (.tuple ds) x H) (hy : im K B (.tuple es) y H) (hl : ds.length + es.length ≤ sizeLine) : RV (rAddU K) x y H (im K B (.tuple (ds ++ es))) := fun Q k => by
  obtain ⟨a, vs, hx, hs, hv⟩ := hx
  obtain ⟨b, us, hy, ht, hu⟩ := hy
  refine .inr (.inl ⟨a, b, vs, us, hx, hy, hs, ht, by rw [imAll_len hv, imAll_len hu]; exact hl, fun e => ?_, fun _ e => ?_, fun _ _ l hn => ?_⟩)
  · subst e
    have : ds = [] := List.eq_nil_of_length_eq_zero (imAll_len hv).symm
    subst this
    exact k _ H (Ex.refl H) ⟨b, us, rfl, ht, hu⟩
  · subst e
    have : es = [] := List.eq_nil_of_length_eq_zero (imAll_len hu).symm
    subst this
    exact k _ H (Ex.refl H) (by rw [List.append_nil]; exact ⟨a, vs, rfl, hs, hv⟩)
  · exact k _ _ (Ex.new hn) ⟨l, vs ++ us, rfl, sqT_of upd_same, imAll_st (RB.of_ex (Ex.new hn)) _ _ (imAll_append hv hu)⟩
theorem im_rep {K : PySem.W.Frag} {B : Bn} {H : Hp} {ns : List Int} {k : Nat} {v : V} (h : im K B (.tuple (List.replicate k (ns.map PyData.int)).flatten) v H) : im K B (tI (List.replicate k ns).flatten) v H := by
  show im K B (.tuple ((List.replicate k ns).flatten.map PyData.int)) v H
  rw [List.map_flatten, List.map_replicate]
  exact h
theorem im_app {K : PySem.W.Frag} {B : Bn} {H : Hp} {ns ms : List Int} {v : V} (h : im K B (.tuple (ns.map PyData.int ++ ms.map PyData.int)) v H) : im K B (tI (ns ++ ms)) v H := by
  rw [← List.map_append] at h
  exact h
section
variable {R : Hp → Hp → Prop} {B : Bn} [rk : Rok B R] {K : PySem.W.Frag} {δ : List (Option PV)} {H : Hp} {te tb : TE}
/-- r[:k], k open -/
theorem ev_uptoN {ns : List Int} {C : Int → Prop} (h : Ev R B te δ H (im K B (tI ns))) (hb : Ev R B tb δ H (intP C)) (hC : ∀ k, C k → 0 ≤ k ∧ k < ns.length := by exact fun k c => ⟨c.1, c.2⟩) :
    Ev R B (tSl (rSlU K) te tNoPart (tPart tb)) δ H (exP (fun n : Nat => n < ns.length) fun n => im K B (tI (ns.take n))) := fun σ H1 r1 S Q k =>
  h σ H1 r1 S _ fun x Ha ra px => hb σ Ha (rk.tr r1 ra) (S.mono (rk.rb ra)) _ fun y Hb rb ⟨i, c, ey⟩ => by
    obtain ⟨c0, c1⟩ := hC i c
    refine ⟨i, ey, ?_⟩
    have := ev_slI (R := Ex) (B := B) (K := K) (te := tC x) (tl := tNoPart) (th := tPart (tC (.int ((i.toNat : Nat) : Int)))) (δ := []) (H := Hb) (ns := ns) (fun σ' Hc rc Sc Q' k' => k' x Hc (Ex.refl Hc) (im_st (RB.of_ex rc) _ _ (im_st (rk.rb rb) _ _ px))) eo_none (eo_some (K := K) ev_int) (cut_upto (n := i.toNat))
    rw [Int.toNat_of_nonneg c0] at this
    obtain ⟨j, ej, hj⟩ := this [] Hb (Ex.refl Hb) ⟨S.ok.mono (rk.rb (rk.tr ra rb)), rfl, fun i p e => by simp at e⟩ Q fun v H3 e3 hv => k v H3 (rk.tr (rk.tr ra rb) (rk.ex e3)) ⟨i.toNat, by omega, hv⟩
    cases ej
    exact hj
end
theorem cutJ {t u : TS} {D : Ends} {σ : L2.St} {H : Hp} (J : L2.St → Hp → Prop) (h : t { D with nx := J } σ H) (k : ∀ s Hc, J s Hc → u D s Hc) : C8.tCut t u D σ H := ⟨J, h, k⟩
theorem ev_tupX2 {R : Hp → Hp → Prop} {B : Bn} [rk : Rok B R] {K : PySem.W.Frag} {δ : List (Option PV)} {H : Hp} {ta tb : TE} {α : Type} {C : α → Prop} {f : α → PyData} {d : PyData} (ha : Ev R B ta δ H (exP C fun a => im K B (f a))) (hb : Ev R B tb δ H (im K B d)) : Ev R B (tTup (tCons ta (tCons tb tNil))) δ H (exP C fun a => im K B (.tuple [f a, d])) := fun σ H1 r1 S Q k =>
  ea_cons ha (ea_cons hb ea_nil) σ H1 r1 S _ fun vs H2 r2 ⟨v, r, e, ⟨a, c, pv⟩, v2, r', e', qv, e''⟩ => by
    subst e e'; cases (show r' = [] from e'')
    exact ⟨show 2 ≤ sizeLine by decide, fun T hT => k _ _ (rk.tr r2 (rk.ex (Ex.new hT))) ⟨a, c, T, _, rfl, sqT_of upd_same, imAll_st (B := B) (RB.of_ex (Ex.new hT)) [f a, d] [v, v2] ⟨v, _, rfl, pv, v2, _, rfl, qv, rfl⟩⟩⟩
end EL

set_option Elab.async false
set_option linter.all false
set_option maxRecDepth 100000
set_option maxHeartbeats 4000000
set_option autoImplicit false
namespace EL
open PySem PySem.Spec PyProof.Rows L2
section
variable {R : Hp → Hp → Prop} {B : Bn} [rk : Rok B R] {K : PySem.W.Frag} {δ : List (Option PV)} {H : Hp} {ta te tb : TE}
/-- r[k:], k open -/
theorem ev_fromN {ns : List Int} {C : Int → Prop} (h : Ev R B te δ H (im K B (tI ns))) (hb : Ev R B tb δ H (intP C)) :
    Ev R B (tSl (rSlU K) te (tPart tb) tNoPart) δ H (exP C fun k => im K B (tI (cut ns (some k) none))) := fun σ H1 r1 S Q k =>
  h σ H1 r1 S _ fun x Ha ra px => hb σ Ha (rk.tr r1 ra) (S.mono (rk.rb ra)) _ fun y Hb rb ⟨i, c, ey⟩ => by
    refine ⟨i, ey, ?_⟩
    have := ev_slI (R := Ex) (B := B) (K := K) (te := tC x) (tl := tPart (tC (.int i))) (th := tNoPart) (δ := []) (H := Hb) (ns := ns) (fun σ' Hc rc Sc Q' k' => k' x Hc (Ex.refl Hc) (im_st (RB.of_ex rc) _ _ (im_st (rk.rb rb) _ _ px))) (eo_some (K := K) ev_int) eo_none rfl
    obtain ⟨j, ej, hj⟩ := this [] Hb (Ex.refl Hb) ⟨S.ok.mono (rk.rb (rk.tr ra rb)), rfl, fun i p e => by simp at e⟩ Q fun v H3 e3 hv => k v H3 (rk.tr (rk.tr ra rb) (rk.ex e3)) ⟨i, c, hv⟩
    cases ej
    exact hj
theorem ev_subN {C D : Int → Prop} (ha : Ev R B ta δ H (intP C)) (hb : Ev R B tb δ H (intP D)) : Ev R B (tOp (rI0 fun i j => .int (i - j)) ta tb) δ H (intP fun k => ∃ i j, C i ∧ D j ∧ k = i - j) :=
  ev_op ha hb fun x y H1 _ _ ⟨i, c, hx⟩ ⟨j, d, hy⟩ Q k => ⟨i, j, hx, hy, k _ H1 (Ex.refl H1) ⟨i - j, ⟨i, j, c, d, rfl⟩, rfl⟩⟩
theorem cut_sub {α : Type} {xs : List α} {lo hi : Option Int} {x : α} (h : x ∈ cut xs lo hi) : x ∈ xs := List.mem_of_mem_drop (List.mem_of_mem_take h)
theorem cut_len {α : Type} {xs : List α} {lo hi : Option Int} : (cut xs lo hi).length ≤ xs.length := by
  unfold cut
  rw [List.length_take, List.length_drop]
  omega
theorem pAll_get {ps : List PV} {P : PV} (hP : ∀ p ∈ ps, ∀ v Hc, p v Hc → P v Hc) : ∀ {vs : List V} {Hc : Hp} {i : Nat} {v : V}, pAll ps vs Hc → vs[i]? = some v → P v Hc := by
  induction ps with
  | nil => intro vs Hc i v h e; rw [show vs = [] from h] at e; simp at e
  | cons p ps ih =>
    intro vs Hc i v ⟨x, r, e1, h1, h2⟩ e
    subst e1
    cases i with
    | zero => cases e; exact hP p List.mem_cons_self _ _ h1
    | succ i => exact ih (fun p hp => hP p (List.mem_cons_of_mem _ hp)) h2 e
theorem pAll_len {ps : List PV} {Hc : Hp} : ∀ {vs : List V}, pAll ps vs Hc → vs.length = ps.length := by
  induction ps with
  | nil => intro vs h; rw [show vs = [] from h]; rfl
  | cons p ps ih => intro vs ⟨x, r, e1, h1, h2⟩; rw [e1, List.length_cons, List.length_cons, ih h2]
/-- a written list is walked -/
theorem src_disp {ta : TA} {ps : List PV} {P : PV} [Stb B P] (h : EvA R B ta δ H ps) (hl : ps.length ≤ sizeLine) (hP : ∀ p ∈ ps, ∀ v Hc, p v Hc → P v Hc) : Src R B (iList K (tLst ta)) δ H ps.length (fun _ => P) := fun σ H1 r1 S Q k =>
  h σ H1 r1 S _ fun vs H2 r2 pr => by
    have ln := pAll_len pr
    refine ⟨by rw [ln]; exact hl, fun a ha => ⟨a, rfl, ⟨vs, sqL_of upd_same⟩, ?_⟩⟩
    have ex : Ex H2 (upd H2 a (.lst vs)) := Ex.new ha
    have nb : ¬ B a := not_ban (S.ok.mono (rk.rb r2)) ha
    refine k _ (fun Hc => SqL K Hc a vs ∧ ∀ i v, vs[i]? = some v → P v Hc) _ (rk.tr r2 (rk.ex ex)) ?_ fun H3 rb => ⟨rb.sqL nb (sqL_of upd_same), fun i v e => Stb.st rb (Stb.st (B := B) (RB.of_ex ex) (pAll_get hP pr e))⟩
    rw [← ln]
    exact walk_list.mono (fun _ z => z.1) fun i Ha x Hb _ g y => ⟨by rw [y.1]; exact Ex.refl _, by rw [y.1]; exact g.2 i x y.2⟩
end
/-! ### letters away, letters ahead -/
abbrev shift (f : Nat → Int) (k : Nat) : Nat → Int := fun n => f (n + k)
theorem sq_drop {b r : List Int} {k : Nat} (h : k ≤ b.length) : sq (b.drop k) r = shift (sq b r) k := funext fun n => by
  show _ = sq b r (n + k)
  by_cases z : n + k < b.length
  · rw [sq_lt z, sq_lt (by rw [List.length_drop]; omega), List.getD_eq_getElem?_getD, List.getElem?_drop, List.getD_eq_getElem?_getD, Nat.add_comm]
  · rw [sq_ge (b := b.drop k) (by rw [List.length_drop]; omega), sq_ge (b := b) (by omega), List.length_drop]
    congr 2
    omega
theorem rot_get' {r : List Int} {n j : Nat} (hn : n < r.length) (hj : j < r.length) : (r.drop n ++ r.take n).getD j 0 = r.getD ((n + j) % r.length) 0 := by
  rw [List.getD_eq_getElem?_getD, List.getD_eq_getElem?_getD]
  by_cases z : n + j < r.length
  · rw [List.getElem?_append_left (by rw [List.length_drop]; omega), List.getElem?_drop, Nat.mod_eq_of_lt z]
  · rw [List.getElem?_append_right (by rw [List.length_drop]; omega), List.length_drop, List.getElem?_take_of_lt (by omega)]
    congr 2
    have e : n + j = (j - (r.length - n)) + r.length := by omega
    rw [e, Nat.add_mod_right, Nat.mod_eq_of_lt (by omega)]
theorem rot_len' {r : List Int} {n : Nat} (hn : n < r.length) : (r.drop n ++ r.take n).length = r.length := by
  rw [List.length_append, List.length_drop, List.length_take]; omega
theorem sq_rot {b r : List Int} {k : Nat} (hr : r ≠ []) (h : b.length ≤ k) : sq [] (r.drop ((k - b.length) % r.length) ++ r.take ((k - b.length) % r.length)) = shift (sq b r) k := funext fun n => by
  have rp : 1 ≤ r.length := List.length_pos_iff.mpr hr
  have hm := Nat.mod_lt (k - b.length) rp
  show _ = sq b r (n + k)
  rw [nil_ge, rot_len' hm, rot_get' hm (Nat.mod_lt _ rp), sq_ge (by omega), ← Nat.add_mod]
  congr 2
  omega
theorem sq_ahead (c b r : List Int) : shift (sq (c ++ b) r) c.length = sq b r := funext fun n => by
  show sq (c ++ b) r (n + c.length) = _
  by_cases z : n < b.length
  · rw [sq_lt z, sq_lt (by rw [List.length_append]; omega), List.getD_eq_getElem?_getD, List.getElem?_append_right (by omega), Nat.add_sub_cancel, List.getD_eq_getElem?_getD]
  · rw [sq_ge (b := c ++ b) (by rw [List.length_append]; omega), sq_ge (b := b) (by omega), List.length_append]
    congr 2
    omega
end EL

set_option Elab.async false
set_option linter.all false
set_option maxRecDepth 100000
set_option maxHeartbeats 4000000
set_option autoImplicit false
namespace EL
open PySem PySem.Spec PyProof.Rows L2
/-! ### a < b of alike data -/
def rLtD (K : PySem.W.Frag) : R2 := fun x y H Q => ∃ d e, Dp K H x d ∧ Dp K H y e ∧ PySem.W.alike d e = true ∧ d ≠ .none ∧ d.depth ≤ 64 ∧ Q (.bl (PySem.W.dataLt d e)) H
theorem op_ltD {X : Cx} (hu : X.A.units + 64 < cLine) : OpR X (compareOp .Lt) (rLtD X.K) := by
  intro pins s σ H x y v u Q I rx ry h
  obtain ⟨d, e, hd, he, ha, hn, hl, q⟩ := h
  obtain ⟨as, r1⟩ := Dp.reads I d x v hd rx
  obtain ⟨bs, r2⟩ := Dp.reads I e y u he ry
  exact PySem.W.rcLt_alike d e X.A s v u as bs r1 r2 ha hn (by omega) _ _ _ _ ⟨.bl _, H, I, rfl, q⟩
def rLtU (K : PySem.W.Frag) : R2 := rOr (rI0 fun i j => .bl (decide (i < j))) (rLtD K)
theorem op_ltK {X : Cx} (K : PySem.W.Frag) (hu : X.A.units + 64 < cLine) (h : X.K = K := by rfl) : OpR X (compareOp .Lt) (rLtU K) := h ▸ op_or op_lt (op_ltD hu)
theorem pi_zipK {X : Cx} (K : PySem.W.Frag) {e e2 : Expr} {ta : TA} {p pos tpos : Pos} {elts : List Expr} {kk : Nat} (hg : Gl X "zip") (hm : X.mg "zip" = none) (ha : PA X [e, e2] ta)
    (hs : starEach [e, e2] X.env = (false, eval e X.env) :: starEach [e2] X.env := by rfl) (hpl : (backTo pos (starEach [e2] X.env)).any (·.1) = false := by rfl) (h : X.K = K := by rfl) :
    PI X (.Tuple elts kk tpos) (.Call (.Name "zip" p) [e, e2] [] pos) (iZip K ta) := h ▸ pi_zip hg hm ha hs hpl
section
variable {R : Hp → Hp → Prop} {B : Bn} [rk : Rok B R] {K : PySem.W.Frag} {δ : List (Option PV)} {H : Hp} {ta te tb : TE} {D : Ends} {σ : L2.St} {u tbd : TS}
theorem ev_ltU {i j : Int} (ha : Ev R B ta δ H (im K B (.int i))) (hb : Ev R B tb δ H (im K B (.int j))) : Ev R B (tOp (rLtU K) ta tb) δ H (im K B (.bool (decide (i < j)))) :=
  ev_op ha hb fun _ _ _ _ _ hx hy Q k => .inl (rv_I0 hx hy Q k)
theorem ev_ltD {d e : PyData} (ha : Ev R B ta δ H (im K B d)) (hb : Ev R B tb δ H (im K B e)) (h1 : PySem.W.alike d e = true) (h2 : d ≠ .none) (h3 : d.depth ≤ 64) : Ev R B (tOp (rLtU K) ta tb) δ H (im K B (.bool (PySem.W.dataLt d e))) :=
  ev_op ha hb fun x y H1 _ _ hx hy Q k => .inr ⟨d, e, im_dp _ _ hx, im_dp _ _ hy, h1, h2, h3, k _ H1 (Ex.refl H1) rfl⟩
/-- zip of two lists -/
theorem src_zip {ds es : List PyData} (ha : Ev R B ta δ H (im K B (.list ds))) (hb : Ev R B tb δ H (im K B (.list es))) (hl : ds.length = es.length) :
    Src R B (iZip K (tCons ta (tCons tb tNil))) δ H ds.length (fun i => im K B (.tuple [ds.getD i .none, es.getD i .none])) := fun σ H1 r S Q k =>
  ha σ H1 r S _ fun v H2 r2 hv => hb σ H2 (rk.tr r r2) (S.mono (rk.rb r2)) _ fun w H3 r3 ⟨b, ws, e', nb', s', hw⟩ => by
    obtain ⟨a, vs, e, nb, s, hv⟩ := im_st (rk.rb r3) _ _ hv
    refine ⟨a, b, vs, ws, by rw [e, e'], s, s', k _ (fun Hc => (SqL K Hc a vs ∧ SqL K Hc b ws) ∧ imAll K B ds vs Hc ∧ imAll K B es ws Hc) H3 (rk.tr r2 r3) ?_ fun H4 rb => ⟨⟨rb.sqL nb s, rb.sqL nb' s'⟩, imAll_st rb _ _ hv, imAll_st rb _ _ hw⟩⟩
    refine (walk_zip (by rw [imAll_len hv, imAll_len hw, ← hl, Nat.min_self])).mono (fun _ z => z.1) fun i Ha x Hb _ g ⟨T, y, z, ex, hT, eH, e1, e2⟩ => ?_
    subst eH
    have r4 := Ex.new (o := .tup [y, z]) hT
    exact ⟨r4, T, [y, z], ex, sqT_of upd_same, y, [z], rfl, im_st (RB.of_ex r4) _ _ (getD_im g.2.1 e1), z, [], rfl, im_st (RB.of_ex r4) _ _ (getD_im g.2.2 e2), rfl⟩
/-- a, b = the pair x -/
theorem g_pair {i j : Nat} {x : V} {d e : PyData} {Q : L2.St → Hp → Prop} (S : SD B H σ δ) (h : im K B (.tuple [d, e]) x H) (k : ∀ σ', SD B H σ' ((δ.set i (some (im K B d))).set j (some (im K B e))) → Q σ' H) :
    gTup K 2 (gCons (gName i) (gCons (gName j) gNil)) x σ H Q := by
  obtain ⟨a, vs, ev, s, v1, r1, e1, h1, v2, r2', e2, h2, e3⟩ := h
  subst ev e1 e2; cases (show r2' = [] from e3)
  exact ⟨a, _, rfl, s, rfl, v1, _, rfl, v2, _, rfl, rfl, k _ ((S.set h1).set h2)⟩
/-- for over a range, the body may do anything -/
theorem sq_forR {v : Nat} {n : Int} (S : SD B H σ δ) (h : Ev R B ta δ H (im K B (.int n))) (h1 : -(2 ^ 62) ≤ n) (h2 : n < 2 ^ 62) (I : Nat → L2.St → Hp → Prop) (h0 : ∀ H0, R H H0 → SD B H0 σ δ → I 0 σ H0)
    (turn : ∀ i s Hc, i < n.toNat → I i s Hc → tbd { D with nx := I (i + 1), ct := I (i + 1), bk := u D } (s.set v (some (.int i))) Hc) (done : ∀ s Hc, I n.toNat s Hc → u D s Hc) : tSeq (tFor (iRng1 (tCons ta tNil)) (gName v) tbd) u D σ H :=
  st_seq <| h σ H (rk.rf H) S _ fun w H2 r2 e => ⟨n, by rw [show w = _ from e], h1, h2, for_it (walk_range (lo := 0) (n := n.toNat)) I (h0 H2 r2 (S.mono (rk.rb r2))) (fun _ _ _ _ _ => trivial) (fun i x s Ha Hb hi p y => by
    obtain ⟨rfl, rfl⟩ := y
    have := turn i s Hb hi p
    rw [show (V.int (i : Int)) = V.int (0 + (i : Int)) by rw [Int.zero_add]] at this
    exact this) done⟩
theorem st_forR {v : Nat} {n : Int} (S : SD B H σ δ) (h : Ev R B ta δ H (im K B (.int n))) (h1 : -(2 ^ 62) ≤ n) (h2 : n < 2 ^ 62) (I : Nat → L2.St → Hp → Prop) (h0 : ∀ H0, R H H0 → SD B H0 σ δ → I 0 σ H0)
    (turn : ∀ i s Hc, i < n.toNat → I i s Hc → tbd { D with nx := I (i + 1), ct := I (i + 1), bk := D.nx } (s.set v (some (.int i))) Hc) (done : ∀ s Hc, I n.toNat s Hc → D.nx s Hc) : tFor (iRng1 (tCons ta tNil)) (gName v) tbd D σ H :=
  h σ H (rk.rf H) S _ fun w H2 r2 e => ⟨n, by rw [show w = _ from e], h1, h2, for_it (walk_range (lo := 0) (n := n.toNat)) I (h0 H2 r2 (S.mono (rk.rb r2))) (fun _ _ _ _ _ => trivial) (fun i x s Ha Hb hi p y => by
    obtain ⟨rfl, rfl⟩ := y
    have := turn i s Hb hi p
    rw [show (V.int (i : Int)) = V.int (0 + (i : Int)) by rw [Int.zero_add]] at this
    exact this) done⟩
theorem sq_unpack2x {α : Type} {C : α → Prop} {f g : α → PyData} {i j : Nat} (S : SD B H σ δ) (h : Ev R B te δ H (exP C fun a => im K B (.tuple [f a, g a]))) (k : ∀ a σ' H2, C a → R H H2 → SD B H2 σ' ((δ.set i (some (im K B (f a)))).set j (some (im K B (g a)))) → u D σ' H2) :
    tSeq (tAsg te (gTup K 2 (gCons (gName i) (gCons (gName j) gNil)))) u D σ H :=
  st_seq <| h σ H (rk.rf H) S _ fun v H2 r2 ⟨a, c, q⟩ => g_pair (S.mono (rk.rb r2)) q fun σ' S' => k a σ' H2 c r2 S'
/-- a list of data, equal to [] or not -/
theorem ev_neE [Rmk R] {ds : List PyData} (ha : Ev R B ta δ H (im K B (.list ds))) (hs : SeqAt.shaped (.list ds) = true) : Ev R B (tOp (rNeU K) ta (tLst tNil)) δ H (im K B (.bool (!ds.isEmpty))) :=
  (ev_ne ha ((ev_lstN (ds := []) ea_nil (Nat.zero_le _)).conv fun v H1 _ q => q.im) hs (by decide)).is (by rw [eqv_nil])
theorem Ev.own {p : Addr} {vs : List V} {ds : List PyData} (h : Ev R B te δ H (isP (.ref p))) (nb : ¬ B p) (e : H p = some (.lst vs)) (hv : imAll K B ds vs H) : Ev R B te δ H (im K B (.list ds)) :=
  h.conv fun v H1 r q => ⟨p, vs, q, nb, sqL_of ((rk.rb r).keep _ _ nb e), imAll_st (rk.rb r) _ _ hv⟩
end
/-! ### a list of one's own, grown -/
def PS : List (Option PV) → Prop
  | [] => True
  | none :: l => PS l
  | some q :: l => (∀ v H H', TK H H' → q v H → q v H') ∧ PS l
theorem ps_is {x : V} : ∀ v H H', TK H H' → isP x v H → isP x v H' := fun _ _ _ _ h => h
theorem ps_im {K : PySem.W.Frag} {B : Bn} {d : PyData} (h : plain d = true) : ∀ v H H', TK H H' → im K B d v H → im K B d v H' := fun v H H' t q => im_tk t d v h q
theorem PS.get : ∀ {δ : List (Option PV)} {i : Nat} {q : PV}, PS δ → δ[i]? = some (some q) → ∀ v H H', TK H H' → q v H → q v H'
  | [], _, _, _, e => by simp at e
  | none :: l, 0, _, _, e => by simp at e
  | none :: l, i + 1, _, h, e => PS.get (δ := l) (i := i) h (by simpa using e)
  | some q :: l, 0, _, h, e => by simp at e; subst e; exact h.1
  | some q :: l, i + 1, _, h, e => PS.get (δ := l) (i := i) h.2 (by simpa using e)
theorem SD.tk {B : Bn} {H H' : Hp} {σ : L2.St} {δ : List (Option PV)} (s : SD B H σ δ) (o : BOk B H') (t : TK H H') (p : PS δ) : SD B H' σ δ := ⟨o, s.len, fun i q e => by
  obtain ⟨a, v, e1, h⟩ := s.at_ i q e
  exact ⟨a, v, e1, p.get e v H H' t h⟩⟩
section
variable {B : Bn} {K : PySem.W.Frag} {δ : List (Option PV)} {H : Hp} {te : TE} {D : Ends} {σ : L2.St} {u : TS}
/-- own.append(x), x plain; the own list isn't of B -/
theorem st_push {i : Nat} {p : Addr} {vs : List V} {ds : List PyData} {d : PyData} (S : SD B H σ δ) (ps : PS δ) (hi : δ[i]? = some (some (isP (.ref p)))) (hp : H p = some (.lst vs)) (hv : imAll K B ds vs H) (pl : plainAll ds = true) (pd : plain d = true) (hl : ds.length < sizeLine) (he : Ev Ex B te δ H (im K B d))
    (k : ∀ v H2, Ex H H2 → SD B (upd H2 p (.lst (vs ++ [v]))) σ δ → imAll K B (ds ++ [d]) (vs ++ [v]) (upd H2 p (.lst (vs ++ [v]))) → D.nx σ (upd H2 p (.lst (vs ++ [v])))) : tDrop (tBM K "list" rAppend (tVar i) (tCons te tNil)) D σ H := by
  refine st_lmeth (R := Ex) S (ev_var hi) (ea_cons he ea_nil) (fun H1 r1 => ⟨_, r1 _ _ hp⟩) fun us H2 r2 S2 ⟨v, r, e, hq, e2⟩ => ?_
  subst e; cases (show r = [] from e2)
  have h2 := r2 _ _ hp
  have t := TK.upd (o := .lst (vs ++ [v])) h2
  refine ⟨p, vs, v, rfl, rfl, h2, by rw [imAll_len hv]; exact hl, k v H2 r2 (S2.tk (fun a b => ?_) t ps) (imAll_append (imAll_tk t _ _ pl (imAll_st (RB.of_ex r2) _ _ hv)) ⟨v, [], rfl, im_tk t _ _ pd hq, rfl⟩)⟩
  by_cases z : a = p
  · subst z; rw [upd_same]; exact fun q => nomatch q
  · rw [upd_ne z]; exact S2.ok a b
theorem sq_push {i : Nat} {p : Addr} {vs : List V} {ds : List PyData} {d : PyData} (S : SD B H σ δ) (ps : PS δ) (hi : δ[i]? = some (some (isP (.ref p)))) (hp : H p = some (.lst vs)) (hv : imAll K B ds vs H) (pl : plainAll ds = true) (pd : plain d = true) (hl : ds.length < sizeLine) (he : Ev Ex B te δ H (im K B d))
    (k : ∀ v H2, Ex H H2 → SD B (upd H2 p (.lst (vs ++ [v]))) σ δ → imAll K B (ds ++ [d]) (vs ++ [v]) (upd H2 p (.lst (vs ++ [v]))) → u D σ (upd H2 p (.lst (vs ++ [v])))) : tSeq (tDrop (tBM K "list" rAppend (tVar i) (tCons te tNil))) u D σ H := st_seq (st_push S ps hi hp hv pl pd hl he k)
end
/-! ### data of words -/
abbrev wdp (w : List Int × List Int) : PyData := wd w.1 w.2
theorem canLayAll_of : ∀ {ds : List PyData}, (∀ d ∈ ds, PyData.canLay0 d = true) → PyData.canLayAll0 ds = true
  | [], _ => by simp [PyData.canLayAll0]
  | d :: ds, h => by simp only [PyData.canLayAll0, h d (List.mem_cons_self ..), canLayAll_of fun e he => h e (List.mem_cons_of_mem _ he), Bool.and_self]
theorem depthAll_of {n : Nat} : ∀ {ds : List PyData}, (∀ d ∈ ds, PyData.depth d ≤ n) → PyData.depthAll ds ≤ n
  | [], _ => by simp [PyData.depthAll]
  | d :: ds, h => by
    have h1 := h d (List.mem_cons_self ..)
    have h2 := depthAll_of fun e he => h e (List.mem_cons_of_mem _ he)
    simp only [PyData.depthAll]
    omega
theorem shaped_list {ds : List PyData} {n : Nat} (h1 : ∀ d ∈ ds, PyData.canLay0 d = true) (h2 : ∀ d ∈ ds, PyData.depth d ≤ n) (hn : n ≤ 60) : SeqAt.shaped (.list ds) = true := by
  unfold SeqAt.shaped
  have a := canLayAll_of h1
  have b := depthAll_of h2
  simp only [PyData.canLay0, a, PyData.depth, Bool.true_and]
  exact decide_eq_true (by omega)
theorem canLay_wd (b r : List Int) : PyData.canLay0 (wd b r) = true := by
  have h1 := canLayAll_ints b
  have h3 := canLayAll_ints r
  simp only [PyData.canLay0, PyData.canLayAll0, h1, h3, Bool.and_self]
theorem depth_wd (b r : List Int) : PyData.depth (wd b r) ≤ 5 := by
  have h2 := depthAll_ints b
  have h4 := depthAll_ints r
  simp only [PyData.depth, PyData.depthAll]
  omega
theorem shaped_wds (ws : List (List Int × List Int)) : SeqAt.shaped (.list (ws.map wdp)) = true :=
  shaped_list (n := 5) (fun d hd => by obtain ⟨w, _, rfl⟩ := List.mem_map.mp hd; exact canLay_wd _ _) (fun d hd => by obtain ⟨w, _, rfl⟩ := List.mem_map.mp hd; exact depth_wd _ _) (by decide)
theorem plain_wds (ws : List (List Int × List Int)) : plainAll (ws.map wdp) = true := plainAll_iff.mpr fun d hd => by obtain ⟨w, _, rfl⟩ := List.mem_map.mp hd; exact plain_wd _ _
/-- by what words rise -/
abbrev ord (b r : List Int) : PyData := .tuple [.int ((b.length + r.length : Nat) : Int), .int (b.length : Nat), tI b, tI r]
theorem plain_ord (b r : List Int) : plain (ord b r) = true := by
  have h1 := plainAll_ints b
  have h2 := plainAll_ints r
  simp only [plain, plainAll, h1, h2, Bool.and_self]
theorem shaped_ord (b r : List Int) : SeqAt.shaped (ord b r) = true := by
  unfold SeqAt.shaped
  have h1 := canLayAll_ints b
  have h2 := depthAll_ints b
  have h3 := canLayAll_ints r
  have h4 := depthAll_ints r
  simp only [PyData.canLay0, PyData.canLayAll0, h1, h3, PyData.depth, PyData.depthAll, Bool.true_and, Bool.and_self]
  exact decide_eq_true (by omega)
theorem depth_ord (b r : List Int) : PyData.depth (ord b r) ≤ 5 := by
  have h2 := depthAll_ints b
  have h4 := depthAll_ints r
  simp only [PyData.depth, PyData.depthAll]
  omega
theorem eqv_ord (b r b' r' : List Int) : PyData.eqv (ord b r) (ord b' r') = decide ((b, r) = (b', r')) := by
  simp only [PyData.eqv, PyData.eqvAll, eqvAll_ints, Bool.and_true]
  by_cases h1 : b = b' <;> by_cases h2 : r = r' <;> simp [h1, h2]
theorem shows_ord {b r : List Int} (hb : ∀ x ∈ b, 0 ≤ x ∧ x < 1000) (hr : ∀ x ∈ r, 0 ≤ x ∧ x < 1000) (hl : b.length + r.length < 1000) : Shows (ord b r) := by
  have s1 := showableAll_small (ns := [((b.length + r.length : Nat) : Int), (b.length : Nat)]) (by intro x hx; simp at hx; omega)
  have s2 := leavesShortAll_small (ns := [((b.length + r.length : Nat) : Int), (b.length : Nat)]) (by intro x hx; simp at hx; omega)
  have s3 := weightAll_small (ns := [((b.length + r.length : Nat) : Int), (b.length : Nat)]) (by intro x hx; simp at hx; omega)
  simp only [List.map_cons, List.map_nil, PyData.showableAll, PyData.leavesShortAll, PyData.weightAll, Bool.and_true] at s1 s2 s3
  rw [Bool.and_eq_true] at s1 s2
  refine ⟨?_, ?_, ?_, ?_⟩
  · simp only [PyData.showable, PyData.showableAll, showableAll_small hb, showableAll_small hr, Bool.and_self, Bool.and_true] at s1 ⊢
    simp only [s1.1, s1.2, Bool.and_self]
  · simp only [PyData.hasDict, PyData.hasDictAll, hasDictAll_ints, Bool.or_self]
  · have := depth_ord b r
    omega
  · refine PyData.shown_fits (B := 13) (by decide) (by decide) ?_ ?_
    · simp only [PyData.leavesShort, PyData.leavesShortAll, leavesShortAll_small hb, leavesShortAll_small hr, Bool.and_self, Bool.and_true] at s2 ⊢
      simp only [s2.1, s2.2, Bool.and_self]
    · have h1 := weightAll_small hb
      have h2 := weightAll_small hr
      simp only [PyData.weight, PyData.weightAll] at s3 ⊢
      simp only [List.length_cons, List.length_nil] at s3
      omega
/-! ### which of two rows is ahead -/
def lx : List Int → List Int → Bool
  | x :: xs, y :: ys => if x = y then lx xs ys else decide (x < y)
  | _, _ => false
theorem lx_self : ∀ xs : List Int, lx xs xs = false
  | [] => rfl
  | x :: xs => by simp only [lx, if_true, lx_self xs]
theorem lx_app : ∀ {b b' : List Int} (r r' : List Int), b.length = b'.length → lx (b ++ r) (b' ++ r') = if b = b' then lx r r' else lx b b'
  | [], [], r, r', _ => by simp
  | x :: b, y :: b', r, r', h => by
    have ih := lx_app (b := b) (b' := b') r r' (by simpa using h)
    simp only [List.cons_append, lx, ih]
    by_cases h1 : x = y <;> by_cases h2 : b = b' <;> simp [h1, h2]
theorem lx_drop {xs ys : List Int} {i : Nat} (h1 : i < xs.length) (h2 : i < ys.length) : lx (xs.drop i) (ys.drop i) = if xs.getD i 0 = ys.getD i 0 then lx (xs.drop (i + 1)) (ys.drop (i + 1)) else decide (xs.getD i 0 < ys.getD i 0) := by
  rw [List.drop_eq_getElem_cons h1, List.drop_eq_getElem_cons h2, lx, List.getD_eq_getElem?_getD, List.getD_eq_getElem?_getD, List.getElem?_eq_getElem h1, List.getElem?_eq_getElem h2]
  rfl
theorem alike_ints : ∀ xs ys : List Int, PySem.W.alikeAll (xs.map .int) (ys.map .int) = true
  | [], _ => by simp [PySem.W.alikeAll]
  | x :: xs, [] => by simp [PySem.W.alikeAll]
  | x :: xs, y :: ys => by simp [PySem.W.alikeAll, PySem.W.alike, alike_ints xs ys]
theorem lt_ints : ∀ xs ys : List Int, xs.length = ys.length → PyProof.Rows.lexLt PyProof.Rows.itemOrd (PySem.W.keyToksAll (xs.map .int)) (PySem.W.keyToksAll (ys.map .int)) = lx xs ys
  | [], [], _ => by rw [List.map_nil]; decide
  | x :: xs, y :: ys, h => by
    simp only [List.map_cons, lx]
    by_cases z : x = y
    · rw [PySem.W.dataLt_all_yes (by simp [PySem.W.alike]) (by simp [PyData.eqv, z]), if_pos z, lt_ints xs ys (by simpa using h)]
    · rw [PySem.W.dataLt_all_no (by simp [PySem.W.alike]) (by simp [PyData.eqv, z]), if_neg z, PySem.W.dataLt_int]
def aheadB (b r b' r' : List Int) : Bool :=
  if b.length + r.length = b'.length + r'.length then (if b.length = b'.length then lx (b ++ r) (b' ++ r') else decide (b.length < b'.length)) else decide (b.length + r.length < b'.length + r'.length)
theorem alike_ord (b r b' r' : List Int) : PySem.W.alike (ord b r) (ord b' r') = true := by
  simp only [PySem.W.alike, PySem.W.alikeAll, alike_ints, Bool.and_self]
theorem lt_ord (b r b' r' : List Int) : PySem.W.dataLt (ord b r) (ord b' r') = aheadB b r b' r' := by
  unfold aheadB
  rw [PySem.W.dataLt_tuple]
  by_cases z : b.length + r.length = b'.length + r'.length
  · rw [if_pos z, PySem.W.dataLt_all_yes (by simp [PySem.W.alike]) (by simp [PyData.eqv, z])]
    by_cases y : b.length = b'.length
    · rw [if_pos y, PySem.W.dataLt_all_yes (by simp [PySem.W.alike]) (by simp [PyData.eqv, y]), lx_app _ _ y]
      by_cases q : b = b'
      · rw [if_pos q, PySem.W.dataLt_all_yes (by simp [PySem.W.alike, alike_ints]) (by rw [eqv_tI]; simp [q])]
        by_cases q2 : r = r'
        · rw [PySem.W.dataLt_all_yes (by simp [PySem.W.alike, alike_ints]) (by rw [eqv_tI]; simp [q2]), q2, lx_self]
          decide
        · rw [PySem.W.dataLt_all_no (by simp [PySem.W.alike, alike_ints]) (by rw [eqv_tI]; simp [q2]), PySem.W.dataLt_tuple, lt_ints _ _ (by omega)]
      · rw [if_neg q, PySem.W.dataLt_all_no (by simp [PySem.W.alike, alike_ints]) (by rw [eqv_tI]; simp [q]), PySem.W.dataLt_tuple, lt_ints _ _ y]
    · rw [if_neg y, PySem.W.dataLt_all_no (by simp [PySem.W.alike]) (by simp [PyData.eqv]; omega), PySem.W.dataLt_int]
      simp
  · rw [if_neg z, PySem.W.dataLt_all_no (by simp [PySem.W.alike]) (by simp [PyData.eqv]; omega), PySem.W.dataLt_int]
    by_cases q : b.length + r.length < b'.length + r'.length
    · rw [decide_eq_true q, decide_eq_true (by omega)]
    · rw [decide_eq_false q, decide_eq_false (by omega)]
end EL

set_option Elab.async false
set_option linter.all false
set_option maxRecDepth 100000
set_option maxHeartbeats 4000000
set_option autoImplicit false
namespace EL
open PySem PySem.Spec PyProof.Rows L2
/-! ### a new list of one's own -/
def ownE (B : Bn) (a : Addr) : PV := fun v Hc => v = .ref a ∧ ¬ B a ∧ Hc a = some (.lst [])
instance {B : Bn} {a : Addr} : Stb B (ownE B a) := ⟨fun r ⟨e, n, h⟩ => ⟨e, n, r.keep _ _ n h⟩⟩
abbrev ownX (B : Bn) : PV := exP (fun _ : Addr => True) (ownE B)
section
variable {R : Hp → Hp → Prop} {B : Bn} [rk : Rok B R] [rm : Rmk R] {K : PySem.W.Frag} {δ : List (Option PV)} {H : Hp} {ta te tb : TE} {D : Ends} {σ : L2.St} {u tbd : TS}
theorem ev_own (K : PySem.W.Frag) : Ev R B (tLst tNil) δ H (ownX B) := (ev_lstN (K := K) (ds := []) ea_nil (Nat.zero_le _)).conv fun v H1 _ ⟨a, vs, e, n, nb, h, q⟩ => ⟨a, trivial, e, nb, by rw [show vs = [] from q] at h; exact h⟩
end
theorem SD.own {B : Bn} {H : Hp} {σ : L2.St} {δ : List (Option PV)} (s : SD B H σ δ) (i : Nat) (e : δ[i]? = some (some (ownX B))) : ∃ a, ¬ B a ∧ H a = some (.lst []) ∧ SD B H σ (δ.set i (some (isP (.ref a)))) := by
  obtain ⟨v, e1, a, _, ev, nb, h⟩ := s.get e
  refine ⟨a, nb, h, s.ok, by rw [List.length_set]; exact s.len, fun j q e2 => ?_⟩
  by_cases z : i = j
  · subst z
    have hl : i < δ.length := by
      rcases Nat.lt_or_ge i δ.length with z | z
      · exact z
      · rw [List.getElem?_eq_none z] at e; cases e
    rw [List.getElem?_set_self hl] at e2
    cases e2
    exact ⟨inferInstance, v, e1, ev⟩
  · rw [List.getElem?_set_ne z] at e2
    exact s.at_ j q e2
theorem SD.up {B : Bn} {H : Hp} {σ : L2.St} {δ : List (Option PV)} {p q : PV} [hq : Stb B q] (s : SD B H σ δ) (i : Nat) (e : δ[i]? = some (some p)) (h : ∀ v, p v H → q v H) : SD B H σ (δ.set i (some q)) := by
  obtain ⟨v, e1, pv⟩ := s.get e
  refine ⟨s.ok, by rw [List.length_set]; exact s.len, fun j w e2 => ?_⟩
  by_cases z : i = j
  · subst z
    have hl : i < δ.length := by
      rcases Nat.lt_or_ge i δ.length with z | z
      · exact z
      · rw [List.getElem?_eq_none z] at e; cases e
    rw [List.getElem?_set_self hl] at e2
    cases e2
    exact ⟨hq, v, e1, h v pv⟩
  · rw [List.getElem?_set_ne z] at e2
    exact s.at_ j w e2
/-! ### lists of f x -/
theorem getD_map {α : Type} {f : α → PyData} {xs : List α} {i : Nat} (d : α) (h : i < xs.length) : (xs.map f).getD i .none = f (xs.getD i d) := by
  rw [List.getD_eq_getElem?_getD, List.getElem?_map, List.getElem?_eq_getElem h, List.getD_eq_getElem?_getD, List.getElem?_eq_getElem h]; rfl
theorem atI_map {α : Type} {f : α → PyData} {xs : List α} {i : Nat} (d : α) (h : i < xs.length) : atI (xs.map f) (i : Int) = some (f (xs.getD i d)) :=
  atI_nat (by rw [List.getElem?_map, List.getElem?_eq_getElem h, List.getD_eq_getElem?_getD, List.getElem?_eq_getElem h]; rfl)
theorem range_map {α β : Type} (f : α → β) (d : α) (xs : List α) : (List.range xs.length).map (fun i => f (xs.getD i d)) = xs.map f := by
  refine List.ext_getElem (by rw [List.length_map, List.length_map, List.length_range]) fun i h1 h2 => ?_
  rw [List.length_map] at h2
  rw [List.getElem_map, List.getElem_map, List.getElem_range, List.getD_eq_getElem?_getD, List.getElem?_eq_getElem h2]; rfl
theorem getD_mem {α : Type} {xs : List α} {i : Nat} (d : α) (h : i < xs.length) : xs.getD i d ∈ xs := by
  rw [List.getD_eq_getElem?_getD, List.getElem?_eq_getElem h]; exact List.getElem_mem h
section
variable {R : Hp → Hp → Prop} {B : Bn} [rk : Rok B R] {K : PySem.W.Frag} {δ : List (Option PV)} {H : Hp} {ta te tb : TE} {D : Ends} {σ : L2.St} {u tbd : TS}
theorem Src.conv {wi : TI} {n m : Nat} {Y Z : Nat → PV} (h : Src R B wi δ H n Y) (e : n = m) (c : ∀ i v Hc, i < n → Y i v Hc → Z i v Hc) : Src R B wi δ H m Z := fun σ H1 r S Q k =>
  h σ H1 r S Q fun J G H2 r2 w g => k J G H2 r2 (e ▸ w.mono (fun _ z => z) fun i Ha x Hb hi _ y => ⟨y.1, c i x Hb hi y.2⟩) g
theorem src_map {α : Type} (f : α → PyData) {xs : List α} (d : α) (h : Ev R B ta δ H (im K B (.list (xs.map f)))) : Src R B (iSeqU K ta) δ H xs.length (fun i => im K B (f (xs.getD i d))) :=
  (src_lstU h).conv (List.length_map ..) fun i v Hc hi q => by rw [List.length_map] at hi; rw [getD_map d hi] at q; exact q
theorem src_zipL {α : Type} (f g : α → PyData) {xs : List α} (d : α) (ha : Ev R B ta δ H (im K B (.list (xs.map f)))) (hb : Ev R B tb δ H (im K B (.list (xs.map g)))) : Src R B (iZip K (tCons ta (tCons tb tNil))) δ H xs.length (fun i => im K B (.tuple [f (xs.getD i d), g (xs.getD i d)])) :=
  (src_zip ha hb (by rw [List.length_map, List.length_map])).conv (List.length_map ..) fun i v Hc hi q => by rw [List.length_map] at hi; rw [getD_map d hi, getD_map d hi] at q; exact q
theorem ev_lcMapL [rm : Rmk R] {α : Type} {v : Nat} (f g : α → PyData) {xs : List α} (d : α) (h : Ev R B ta δ H (im K B (.list (xs.map f)))) (hn : xs.length ≤ sizeLine) (hp : ∀ x, x ∈ xs → plain (g x) = true)
    (he : ∀ x Hc, x ∈ xs → R H Hc → Ev R B te ((δ.set v none).set v (some (im K B (f x)))) Hc (im K B (g x))) : Ev R B (tLc (iSeqU K ta) (gName v) tYes te [v]) δ H (im K B (.list (xs.map g))) :=
  (ev_lcMap (K := K) (fun i => g (xs.getD i d)) (src_map f d h) hn (fun i hi => hp _ (getD_mem d hi)) fun i Hc hi r => he _ Hc (getD_mem d hi) r).is (by rw [range_map])
end
theorem shaped_bool (b : Bool) : SeqAt.shaped (.bool b) = true := by cases b <;> decide
theorem eqv_bool (a b : Bool) : PyData.eqv (.bool a) (.bool b) = (a == b) := by cases a <;> cases b <;> decide
end EL

set_option Elab.async false
set_option linter.all false
set_option maxRecDepth 100000
set_option maxHeartbeats 4000000
set_option autoImplicit false
namespace EL
open PySem PySem.Spec PyProof.Rows L2
/-! ### lists that are there as such -/
def rawL (K : PySem.W.Frag) (B : Bn) (ds : List PyData) : PV := fun v Hc => ∃ a vs, v = .ref a ∧ ¬ B a ∧ Hc a = some (.lst vs) ∧ imAll K B ds vs Hc
instance {K : PySem.W.Frag} {B : Bn} {ds : List PyData} : Stb B (rawL K B ds) := ⟨fun r ⟨a, vs, e, nb, h, q⟩ => ⟨a, vs, e, nb, r.keep _ _ nb h, imAll_st r _ _ q⟩⟩
theorem rawL.im {K : PySem.W.Frag} {B : Bn} {Hc : Hp} {ds : List PyData} {v : V} (h : rawL K B ds v Hc) : im K B (.list ds) v Hc := by
  obtain ⟨a, vs, e, nb, h, q⟩ := h
  exact ⟨a, vs, e, nb, sqL_of h, q⟩
theorem newL.raw {K : PySem.W.Frag} {B : Bn} {H Hc : Hp} {ds : List PyData} {v : V} (h : newL K B H ds v Hc) : rawL K B ds v Hc := by
  obtain ⟨a, vs, e, n, nb, h, q⟩ := h
  exact ⟨a, vs, e, nb, h, q⟩
section
variable {R : Hp → Hp → Prop} {B : Bn} [rk : Rok B R] {K : PySem.W.Frag} {δ : List (Option PV)} {H : Hp} {ta te tb : TE} {D : Ends} {σ : L2.St} {u tbd : TS}
theorem Ev.asL {ds : List PyData} (h : Ev R B ta δ H (rawL K B ds)) : Ev R B ta δ H (im K B (.list ds)) := h.conv fun _ _ _ q => q.im
theorem ev_catR {ds es : List PyData} (ha : Ev R B ta δ H (rawL K B ds)) (hb : Ev R B tb δ H (rawL K B es)) (hl : ds.length + es.length ≤ sizeLine) : Ev R B (tOp (rAddU K) ta tb) δ H (rawL K B (ds ++ es)) :=
  ev_op ha hb fun x y H1 _ o ⟨a, vs, e, nb, h, q⟩ ⟨b, ws, e', nb', h', q'⟩ Q k => .inr (.inr (.inl ⟨a, b, vs, ws, e, e', h, h', by rw [imAll_len q, imAll_len q']; exact hl, fun p hp =>
    k _ _ (Ex.new hp) ⟨p, vs ++ ws, rfl, not_ban o hp, upd_same, imAll_append (imAll_st (RB.of_ex (Ex.new hp)) _ _ q) (imAll_st (RB.of_ex (Ex.new hp)) _ _ q')⟩⟩))
theorem ev_lstR [Rmk R] {ta : TA} {ds : List PyData} (h : EvA R B ta δ H (ds.map (EL.im K B))) (hl : ds.length ≤ sizeLine) : Ev R B (tLst ta) δ H (rawL K B ds) := (ev_lstN h hl).conv fun _ _ _ q => q.raw
theorem ev_max2 {i j : Int} (ha : Ev R B ta δ H (im K B (.int i))) (hb : Ev R B tb δ H (im K B (.int j))) : Ev R B (tCB (fun xs H Q => ∃ i j, xs = [.int i, .int j] ∧ Q (.int (if j > i then j else i)) H) (tCons ta (tCons tb tNil))) δ H (im K B (.int (if j > i then j else i))) :=
  ev_cb (ea_cons ha (ea_cons hb ea_nil)) fun vs H1 _ _ ⟨v, r, e, h1, v2, r2, e2, h2, e3⟩ Q k => by
    subst e e2; cases (show r2 = [] from e3)
    rw [show v = _ from h1, show v2 = _ from h2]
    exact ⟨i, j, rfl, k _ H1 (rk.rf H1) rfl⟩
/-- what an inner for of a comprehension walks; the list at A is being made -/
def SrcD (R : Hp → Hp → Prop) (B : Bn) (wi : TI) (δ : List (Option PV)) (H : Hp) (n : Nat) (Y : Nat → PV) : Prop := ∀ σ H1 A, R H H1 → SD B H1 σ δ → H1 A ≠ none → ∀ Q : It → Hp → Prop,
  (∀ (J : It) (G : Hp → Prop) (H2 : Hp), R H1 H2 → Walk J n G (fun i Ha x Hb => Ex Ha Hb ∧ Y i x Hb) → (∀ H3, RB (fun a => B a ∨ a = A) H2 H3 → G H3) → Q J H2) → wi σ H1 Q
theorem srcD_range1 {n : Int} (h : Ev R B ta δ H (im K B (.int n))) (h1 : -(2 ^ 62) ≤ n) (h2 : n < 2 ^ 62) : SrcD R B (iRng1 (tCons ta tNil)) δ H n.toNat (fun i => im K B (.int i)) := fun σ H1 A r S _ Q k =>
  h σ H1 r S _ fun v H2 r2 e => ⟨n, by rw [show v = _ from e], h1, h2, k _ (fun _ => True) H2 r2 (walk_range.mono (fun _ z => z) fun i Ha x Hb _ _ y => ⟨by rw [y.1]; exact Ex.refl _, by rw [y.2]; show V.int (0 + (i : Int)) = V.int _; rw [Int.zero_add]⟩) fun _ _ => trivial⟩
theorem srcD_new {ds : List PyData} (pl : plainAll ds = true) (h : ∀ H', R H H' → Ev R B ta δ H' (newL K B H' ds)) : SrcD R B (iSeqU K ta) δ H ds.length (fun i => im K B (ds.getD i .none)) := fun σ H1 A r S nA Q k => .inl <|
  h H1 r σ H1 (rk.rf H1) S _ fun v H2 r2 ⟨a, vs, e, n, nb, s, hv⟩ => ⟨a, e, ⟨vs, sqL_of s⟩, by
    refine k _ (fun Hc => SqL K Hc a vs ∧ imAll K B ds vs Hc) H2 r2 ?_ fun H3 rb => ⟨rb.sqL (fun z => z.elim nb fun q => nA (q ▸ n)) (sqL_of s), imAll_tk rb.tk _ _ pl hv⟩
    rw [← imAll_len hv]
    exact walk_list.mono (fun _ z => z.1) fun i Ha x Hb _ g y => ⟨by rw [y.1]; exact Ex.refl _, by rw [y.1]; exact getD_im g.2 y.2⟩⟩
/-- [f for .. for ..] -/
theorem ev_lc2N [rm : Rmk R] {wi wi1 : TI} {v v1 n : Nat} {Y : Nat → PV} [∀ i, Stb B (Y i)] {Z : Nat → Nat → PV} [∀ i j, Stb B (Z i j)] (m : Nat → Nat) (f : Nat → Nat → PyData) (ne : v ≠ v1) (hY : ∀ i v Ha Hb, TK Ha Hb → Y i v Ha → Y i v Hb) (hs : Src R B wi δ H n Y) (hn : ((List.range n).flatMap fun i => (List.range (m i)).map (f i)).length ≤ sizeLine)
    (hp : ∀ i j, i < n → j < m i → plain (f i j) = true)
    (h1 : ∀ i Hc, i < n → R H Hc → SrcD R B wi1 (((δ.set v1 none).set v none).set v (some (Y i))) Hc (m i) (Z i))
    (he : ∀ i j Hc, i < n → j < m i → R H Hc → Ev R B te ((((((δ.set v1 none).set v none).set v (some (Y i))).set v1 none)).set v1 (some (Z i j))) Hc (im K B (f i j))) :
    Ev R B (tLc2 wi (gName v) tYes wi1 (gName v1) tYes te [v, v1] [v1]) δ H (newL K B H ((List.range n).flatMap fun i => (List.range (m i)).map (f i))) := fun σ H1 r1 S Q k =>
  hs σ H1 r1 S _ fun J G H2 r2 w hG D hD => by
    have nB : ¬ B D := not_ban (S.ok.mono (rk.rb r2)) hD
    have hD1 : Ex H2 (upd H2 D (.lst [])) := Ex.new hD
    let F : Nat → List PyData := fun i => (List.range i).flatMap fun i => (List.range (m i)).map (f i)
    have Fs : ∀ i, F (i + 1) = F i ++ (List.range (m i)).map (f i) := fun i => by
      show (List.range (i + 1)).flatMap _ = _
      rw [List.range_succ, List.flatMap_append]; simp [F]
    have Fl : ∀ i j, i ≤ j → (F i).length ≤ (F j).length := by
      intro i j hij
      induction j with
      | zero => rw [Nat.le_zero.mp hij]; exact Nat.le_refl _
      | succ j ih =>
        rcases Nat.eq_or_lt_of_le hij with e | e
        · rw [e]; exact Nat.le_refl _
        · rw [Fs, List.length_append]
          have := ih (by omega)
          omega
    let P : Nat → Nat → Hp → Prop := fun i j Hc => R H2 Hc ∧ ∃ vs, Hc D = some (.lst vs) ∧ imAll K B (F i ++ (List.range j).map (f i)) vs Hc
    have pf : ∀ i j, i < n → j ≤ m i → plainAll (F i ++ (List.range j).map (f i)) = true := by
      intro i j hi hj
      refine plainAll_iff.mpr fun d hd => ?_
      rcases List.mem_append.mp hd with hd | hd
      · obtain ⟨a, ha, hd⟩ := List.mem_flatMap.mp hd
        obtain ⟨b, hb, rfl⟩ := List.mem_map.mp hd
        rw [List.mem_range] at ha hb
        exact hp a b (by omega) hb
      · obtain ⟨b, hb, rfl⟩ := List.mem_map.mp hd
        rw [List.mem_range] at hb
        exact hp i b hi (by omega)
    refine ⟨fun i mm Hc => mm = n - i ∧ i ≤ n ∧ P i 0 Hc, ⟨n, by simp, Nat.zero_le _, rk.ex hD1, [], upd_same, rfl⟩, ?_⟩
    rintro i mm Hc ⟨rfl, hi, rc, vs, eD, hv⟩
    have gH := hG Hc (rk.rb rc)
    by_cases hlt : i < n
    · refine .inr ⟨w.goes i Hc hlt gH, P (i + 1) 0, fun H' p' => ⟨n - (i + 1), by omega, rfl, hlt, p'⟩, fun x Hb y => ?_⟩
      obtain ⟨ye, yy⟩ := w.yields i Hc x Hb hlt gH y
      have rb' : R H2 Hb := rk.tr rc (rk.ex ye)
      have Sb : SD B Hb ((σ.set v1 none).set v none) ((δ.set v1 none).set v none) := (((S.mono (rk.rb r2)).mono (rk.rb rb')).unset).unset
      have S2 : SD B Hb (((σ.set v1 none).set v none).set v (some x)) (((δ.set v1 none).set v none).set v (some (Y i))) := Sb.set yy
      refine ⟨?_, ?_⟩
      · show (((((σ.set v1 none).set v none).set v (some x)).set v1 none).set v none) = (σ.set v1 none).set v none
        rw [List.set_set, List.set_comm _ _ (fun z => ne z), List.set_set, List.set_set]
      show wi1 _ Hb _
      refine h1 i Hb hlt (rk.tr r1 (rk.tr r2 rb')) _ Hb D (rk.rf Hb) S2 (by rw [ye _ _ eD]; exact fun z => nomatch z) _ fun J1 G1 H4 r4 w1 hG1 => ?_
      have e4 : H4 D = some (.lst vs) := (rk.rb r4).keep _ _ nB (ye _ _ eD)
      have hv4 : imAll K B (F i ++ (List.range 0).map (f i)) vs H4 := imAll_st (rk.rb r4) _ _ (imAll_st (RB.of_ex ye) _ _ hv)
      refine ⟨fun j kk Hd => kk = m i - j ∧ j ≤ m i ∧ RB (fun a => B a ∨ a = D) H4 Hd ∧ P i j Hd, ⟨m i, by simp, Nat.zero_le _, RB.refl H4, rk.tr rb' r4, vs, e4, hv4⟩, ?_⟩
      rintro j kk Hd ⟨rfl, hj, rd, rd2, us, eD2, hv2⟩
      have gH1 := hG1 Hd rd
      by_cases hjl : j < m i
      · refine .inr ⟨w1.goes j Hd hjl gH1, fun H' => RB (fun a => B a ∨ a = D) H4 H' ∧ P i (j + 1) H', fun H' p' => ⟨m i - (j + 1), by omega, rfl, hjl, p'⟩, fun x1 He y1 => ?_⟩
        obtain ⟨ye1, yy1⟩ := w1.yields j Hd x1 He hjl gH1 y1
        have tk2 : TK Hb He := ⟨fun a xs z => ye1 _ _ (rd.tup a xs ((rk.rb r4).tup a xs z)), fun a o u z => ye1 _ _ (rd.frz a o u ((rk.rb r4).frz a o u z))⟩
        have S3 : SD B He (((((σ.set v1 none).set v none).set v (some x)).set v1 none).set v1 (some x1)) (((((δ.set v1 none).set v none).set v (some (Y i))).set v1 none).set v1 (some (Z i j))) := (((S.mono (rk.rb (rk.tr r2 (rk.tr rd2 (rk.ex ye1))))).unset).unset.set (hY i x Hb He tk2 yy)).unset.set yy1
        refine ⟨by show ((((((σ.set v1 none).set v none).set v (some x)).set v1 none).set v1 (some x1)).set v1 none) = ((((σ.set v1 none).set v none).set v (some x)).set v1 none); rw [List.set_set, List.set_set], ?_⟩
        show te _ He _
        refine he i j He hlt hjl (rk.tr (rk.tr r1 r2) (rk.tr rd2 (rk.ex ye1))) _ He (rk.rf He) S3 _ fun z H6 r6 hz => ?_
        have r36 : R Hd H6 := rk.tr (rk.ex ye1) r6
        have e6 : H6 D = some (.lst us) := (rk.rb r36).keep _ _ nB eD2
        have hv6 := imAll_st (rk.rb r36) _ _ hv2
        have pl := pf i j hlt hj
        refine ⟨us, e6, ?_, (rd.trans ((rk.rb r36).sub fun _ z => .inl z)).trans (RB.updB (RB.refl H6) (.inr rfl) e6), rm.new (rk.tr rd2 r36) hD, us ++ [z], upd_same, ?_⟩
        · rw [imAll_len hv6, List.length_append, List.length_map, List.length_range]
          have := Fl (i + 1) n hlt
          rw [Fs, List.length_append, List.length_map, List.length_range] at this
          have : (F n).length ≤ sizeLine := hn
          omega
        · rw [List.range_succ, List.map_append, ← List.append_assoc]
          exact imAll_append (imAll_tk (TK.upd e6) _ _ pl hv6) ⟨z, [], rfl, im_tk (TK.upd e6) _ _ (hp i j hlt hjl) hz, rfl⟩
      · have ej : j = m i := by omega
        subst ej
        refine .inl ⟨w1.stops Hd gH1, rd2, us, eD2, ?_⟩
        rw [List.range_zero, List.map_nil, List.append_nil, Fs]
        exact hv2
    · have e : i = n := by omega
      subst e
      refine .inl ⟨w.stops Hc gH, k _ Hc (rk.tr r2 rc) ⟨D, vs, rfl, RB.fresh (rk.rb (rk.tr r1 r2)) hD, nB, eD, ?_⟩⟩
      rw [List.range_zero, List.map_nil, List.append_nil] at hv
      exact hv
end
end EL

set_option Elab.async false
set_option linter.all false
set_option maxRecDepth 100000
set_option maxHeartbeats 4000000
set_option autoImplicit false
namespace EL
open PySem PySem.Spec PyProof.Rows L2
theorem range_flatMap {α β : Type} (f : α → List β) (d : α) (xs : List α) : (List.range xs.length).flatMap (fun i => f (xs.getD i d)) = xs.flatMap f := by
  rw [List.flatMap_def, List.flatMap_def, range_map]
theorem range_filter {α β : Type} (p : α → Bool) (g : α → β) (d : α) (xs : List α) : ((List.range xs.length).filter fun i => p (xs.getD i d)).map (fun i => g (xs.getD i d)) = (xs.filter p).map g := by
  have e : xs = (List.range xs.length).map fun i => xs.getD i d := by
    have := range_map (fun x : α => x) d xs
    rw [List.map_id'] at this
    exact this.symm
  conv => rhs; rw [e, List.filter_map, List.map_map]
  rfl
section
variable {R : Hp → Hp → Prop} {B : Bn} [rk : Rok B R] {K : PySem.W.Frag} {δ : List (Option PV)} {H : Hp} {ta te tb : TE} {D : Ends} {σ : L2.St} {u tbd : TS} {tt : TT}
theorem ev_lcFilterN [rm : Rmk R] {wi : TI} {v n : Nat} {Y : Nat → PV} [∀ i, Stb B (Y i)] (f : Nat → PyData) (p : Nat → Bool) (hs : Src R B wi δ H n Y) (hn : n ≤ sizeLine) (hp : ∀ i, i < n → plain (f i) = true)
    (ht : ∀ i Hc, i < n → R H Hc → EvT R B tt ((δ.set v none).set v (some (Y i))) Hc (p i)) (he : ∀ i Hc, i < n → p i = true → R H Hc → Ev R B te ((δ.set v none).set v (some (Y i))) Hc (im K B (f i))) : Ev R B (tLc wi (gName v) tt te [v]) δ H (newL K B H (((List.range n).filter p).map f)) :=
  (ev_lcN (K := K) (fun i ds => ds = ((List.range i).filter p).map f) hs hn rfl fun i ds Hc hi e r => ⟨_, etx_of (ht i Hc hi r), fun z => by rw [e, List.range_succ, List.filter_append, List.map_append]; simp [z.symm], fun z Hd rd => ⟨_, ev_one (he i Hd hi z.symm (rk.tr r rd)), fun d ed => ⟨by rw [ed]; exact hp i hi, by rw [e, ed, List.range_succ, List.filter_append, List.map_append]; simp [z.symm]⟩⟩⟩).conv
    fun v H1 _ ⟨ds, e, hv⟩ => e ▸ hv
theorem ev_lcFilterL [rm : Rmk R] {α : Type} {v : Nat} (f g : α → PyData) (p : α → Bool) {xs : List α} (d : α) (h : Ev R B ta δ H (im K B (.list (xs.map f)))) (hn : xs.length ≤ sizeLine) (hp : ∀ x, x ∈ xs → plain (g x) = true)
    (ht : ∀ x Hc, x ∈ xs → R H Hc → EvT R B tt ((δ.set v none).set v (some (im K B (f x)))) Hc (p x)) (he : ∀ x Hc, x ∈ xs → p x = true → R H Hc → Ev R B te ((δ.set v none).set v (some (im K B (f x)))) Hc (im K B (g x))) : Ev R B (tLc (iSeqU K ta) (gName v) tt te [v]) δ H (newL K B H ((xs.filter p).map g)) :=
  (ev_lcFilterN (K := K) (fun i => g (xs.getD i d)) (fun i => p (xs.getD i d)) (src_map f d h) hn (fun i hi => hp _ (getD_mem d hi)) (fun i Hc hi r => ht _ Hc (getD_mem d hi) r) fun i Hc hi z r => he _ Hc (getD_mem d hi) z r).is (by rw [range_filter])
/-- a def that only reads, whose answer is a new list of plain data -/
def newSp {α : Type} (K : PySem.W.Frag) (args : α → List PyData) (pre : α → Prop) (res : α → List PyData) : Sp := fun vs H Q _ =>
  ∃ a : α, imAll K (fun _ => False) (args a) vs H ∧ pre a ∧ ∀ v H', Ex H H' → newL K (fun _ => False) H (res a) v H' → Q v H'
theorem newSp.len {α : Type} {K : PySem.W.Frag} {args : α → List PyData} {pre : α → Prop} {res : α → List PyData} {n : Nat} (h : ∀ a, (args a).length = n) {vs : List V} {H : Hp} {Q : VK} {E : XK} (q : newSp K args pre res vs H Q E) : vs.length = n := by
  obtain ⟨a, hv, _⟩ := q
  rw [imAll_len hv, h]
theorem ev_callNew {α : Type} {args : α → List PyData} {pre : α → Prop} {res : α → List PyData} {E : XK} {ta : TA} (a : α) (h : EvA R B ta δ H ((args a).map (im K B))) (hp : pre a) (pa : plainAll (args a) = true) (pr : plainAll (res a) = true) :
    Ev R B (tCall (newSp K args pre res) [] E ta) δ H (newL K B H (res a)) := fun σ H1 r1 S Q k => h σ H1 r1 S _ fun us H2 r2 hu =>
      ⟨a, imAll_tk ⟨fun _ _ z => z, fun _ _ _ z => z⟩ _ _ pa (by rw [List.append_nil]; exact imAll_of_pAll hu), hp, fun v H3 e3 ⟨x, vs, e, n, nb, hx, hv⟩ => k v H3 (rk.tr r2 (rk.ex e3)) ⟨x, vs, e, RB.fresh (rk.rb (rk.tr r1 r2)) n, not_ban (S.ok.mono (rk.rb r2)) n, hx, imAll_tk ⟨fun _ _ z => z, fun _ _ _ z => z⟩ _ _ pr hv⟩⟩
theorem srcD_range2 {a b : Int} (ha : Ev R B ta δ H (im K B (.int a))) (hb : Ev R B tb δ H (im K B (.int b))) (hc : -(2 ^ 62) ≤ a ∧ a < 2 ^ 62 ∧ -(2 ^ 62) ≤ b ∧ b < 2 ^ 62) : SrcD R B (iRng2 (tCons ta (tCons tb tNil))) δ H (b - a).toNat (fun i => im K B (.int (a + i))) := fun σ H1 A r S _ Q k =>
  ha σ H1 r S _ fun v H2 r2 e => hb σ H2 (rk.tr r r2) (S.mono (rk.rb r2)) _ fun u H3 r3 e' => ⟨a, b, by rw [show v = _ from e, show u = _ from e'], hc, k _ (fun _ => True) H3 (rk.tr r2 r3) (walk_range.mono (fun _ z => z) fun i Ha x Hb _ _ y => ⟨by rw [y.1]; exact Ex.refl _, by rw [y.2]; rfl⟩) fun _ _ => trivial⟩
theorem SrcD.conv {wi : TI} {n m : Nat} {Y Z : Nat → PV} (h : SrcD R B wi δ H n Y) (e : n = m) (c : ∀ i v Hc, i < n → Y i v Hc → Z i v Hc) : SrcD R B wi δ H m Z := fun σ H1 A r S hA Q k =>
  h σ H1 A r S hA Q fun J G H2 r2 w g => k J G H2 r2 (e ▸ w.mono (fun _ z => z) fun i Ha x Hb hi _ y => ⟨y.1, c i x Hb hi y.2⟩) g
theorem srcD_newL {α : Type} (f : α → PyData) {xs : List α} (d : α) (pl : plainAll (xs.map f) = true) (h : ∀ H', R H H' → Ev R B ta δ H' (newL K B H' (xs.map f))) : SrcD R B (iSeqU K ta) δ H xs.length (fun i => im K B (f (xs.getD i d))) :=
  (srcD_new pl h).conv (List.length_map ..) fun i v Hc hi q => by rw [List.length_map] at hi; rw [getD_map d hi] at q; exact q
/-- for, the body may change the list at A -/
theorem st_forD {wi : TI} {v n : Nat} {Y : Nat → PV} [∀ i, Stb B (Y i)] {A : Addr} (S : SD B H σ δ) (hs : SrcD R B wi δ H n Y) (hA : H A ≠ none) (I : Hp → Nat → L2.St → Hp → Prop) (h0 : ∀ H0, R H H0 → SD B H0 σ δ → I H0 0 σ H0) (hI : ∀ H0 i s Hc, I H0 i s Hc → RB (fun a => B a ∨ a = A) H0 Hc)
    (turn : ∀ H0 i x s Ha Hc, R H H0 → i < n → I H0 i s Ha → Ex Ha Hc → Y i x Hc → tbd { D with nx := I H0 (i + 1), ct := I H0 (i + 1), bk := D.nx } (s.set v (some x)) Hc) (done : ∀ H0 s Hc, R H H0 → I H0 n s Hc → D.nx s Hc) : tFor wi (gName v) tbd D σ H :=
  hs σ H A (rk.rf H) S hA _ fun J G H2 r2 w hG => for_it w (I H2) (h0 H2 r2 (S.mono (rk.rb r2))) (fun i s Hc _ p => hG Hc (hI H2 i s Hc p)) (fun i x s Ha Hb hi p y => turn H2 i x s Ha Hb r2 hi p y.1 y.2) fun s Hc p => done H2 s Hc r2 p
theorem sq_forD {wi : TI} {v n : Nat} {Y : Nat → PV} [∀ i, Stb B (Y i)] {A : Addr} (S : SD B H σ δ) (hs : SrcD R B wi δ H n Y) (hA : H A ≠ none) (I : Hp → Nat → L2.St → Hp → Prop) (h0 : ∀ H0, R H H0 → SD B H0 σ δ → I H0 0 σ H0) (hI : ∀ H0 i s Hc, I H0 i s Hc → RB (fun a => B a ∨ a = A) H0 Hc)
    (turn : ∀ H0 i x s Ha Hc, R H H0 → i < n → I H0 i s Ha → Ex Ha Hc → Y i x Hc → tbd { D with nx := I H0 (i + 1), ct := I H0 (i + 1), bk := u D } (s.set v (some x)) Hc) (done : ∀ H0 s Hc, R H H0 → I H0 n s Hc → u D s Hc) : tSeq (tFor wi (gName v) tbd) u D σ H := st_seq (st_forD S hs hA I h0 hI turn done)
end
section
variable {B : Bn} {K : PySem.W.Frag} {δ : List (Option PV)} {H : Hp} {te : TE} {D : Ends} {σ : L2.St} {u : TS}
/-- own.extend(a new list of plain data); the own list isn't of B -/
theorem st_extend {i : Nat} {p : Addr} {vs : List V} {ds es : List PyData} (S : SD B H σ δ) (ps : PS δ) (hi : δ[i]? = some (some (isP (.ref p)))) (hp : H p = some (.lst vs)) (hv : imAll K B ds vs H) (pl : plainAll ds = true) (pe : plainAll es = true) (hl : ds.length + es.length ≤ sizeLine) (he : Ev Ex B te δ H (newL K B H es))
    (k : ∀ ws H2, Ex H H2 → SD B (upd H2 p (.lst (vs ++ ws))) σ δ → imAll K B (ds ++ es) (vs ++ ws) (upd H2 p (.lst (vs ++ ws))) → D.nx σ (upd H2 p (.lst (vs ++ ws)))) : tDrop (tBM K "list" rExtend (tVar i) (tCons te tNil)) D σ H := by
  refine st_lmeth (R := Ex) S (ev_var hi) (ea_cons he ea_nil) (fun H1 r1 => ⟨_, r1 _ _ hp⟩) fun us H2 r2 S2 ⟨v, r, e, ⟨a, ws, ea, na, nb, ha, hw⟩, e2⟩ => ?_
  subst e ea; cases (show r = [] from e2)
  have h2 := r2 _ _ hp
  have t := TK.upd (o := .lst (vs ++ ws)) h2
  refine ⟨p, a, vs, ws, rfl, rfl, h2, ha, by rw [imAll_len hv, imAll_len hw]; exact hl, k ws H2 r2 (S2.tk (fun a b => ?_) t ps) (imAll_append (imAll_tk t _ _ pl (imAll_st (RB.of_ex r2) _ _ hv)) (imAll_tk t _ _ pe hw))⟩
  by_cases z : a = p
  · subst z; rw [upd_same]; exact fun q => nomatch q
  · rw [upd_ne z]; exact S2.ok a b
theorem RB.upd1 {p : Addr} {H0 Hc : Hp} {xs : List V} {o : HO} (r : RB (fun a => B a ∨ a = p) H0 Hc) (e : Hc p = some (.lst xs)) : RB (fun a => B a ∨ a = p) H0 (upd Hc p o) := r.updB (.inr rfl) e
theorem ev_tupleR {R : Hp → Hp → Prop} [rk : Rok B R] {ta : TE} {ds : List PyData} (ha : Ev R B ta δ H (im K B (.list ds))) : Ev R B (tCB (rTupQ K) (tCons ta tNil)) δ H (im K B (.tuple ds)) :=
  ((ev_tupleLx (C := fun _ : Unit => True) (f := fun _ => ds) (ha.conv fun _ _ _ q => ⟨(), trivial, q⟩))).conv fun _ _ _ ⟨_, _, q⟩ => q
end
end EL

set_option Elab.async false
set_option linter.all false
set_option maxRecDepth 100000
set_option maxHeartbeats 4000000
set_option autoImplicit false
namespace EL
open PySem PySem.Spec PyProof.Rows L2
/-! ### all rows of so many letters -/
def rowsI (L : Nat) : Nat → List (List Int)
  | 0 => [[]]
  | n + 1 => (rowsI L n).flatMap fun row => (List.range L).map fun x => row ++ [((x : Nat) : Int)]
theorem rowsI_len (L : Nat) : ∀ n, (rowsI L n).length = L ^ n
  | 0 => rfl
  | n + 1 => by
    have : ∀ xs : List (List Int), (xs.flatMap fun row => (List.range L).map fun x => row ++ [((x : Nat) : Int)]).length = xs.length * L := by
      intro xs
      induction xs with
      | nil => simp
      | cons x xs ih => rw [List.flatMap_cons, List.length_append, ih, List.length_map, List.length_range, List.length_cons, Nat.succ_mul, Nat.add_comm]
    rw [rowsI, this, rowsI_len L n, Nat.pow_succ]
theorem rowsI_mem {L : Nat} : ∀ {n : Nat} {row : List Int}, row ∈ rowsI L n → row.length = n ∧ ∀ x ∈ row, 0 ≤ x ∧ x < (L : Int)
  | 0, row, h => by
    rw [rowsI, List.mem_singleton] at h; subst h; exact ⟨rfl, fun x hx => nomatch hx⟩
  | n + 1, row, h => by
    rw [rowsI] at h
    obtain ⟨r, hr, h⟩ := List.mem_flatMap.mp h
    obtain ⟨x, hx, rfl⟩ := List.mem_map.mp h
    obtain ⟨h1, h2⟩ := rowsI_mem hr
    rw [List.mem_range] at hx
    refine ⟨by rw [List.length_append, h1]; rfl, fun y hy => ?_⟩
    rcases List.mem_append.mp hy with hy | hy
    · exact h2 y hy
    · rw [List.mem_singleton] at hy; omega
def dg (L : Nat) : Nat → Nat → List Int
  | 0, _ => []
  | k + 1, n => dg L k (n / L) ++ [((n % L : Nat) : Int)]
theorem dg_succ (L : Nat) : ∀ k n, dg L (k + 1) n = [((n / L ^ k % L : Nat) : Int)] ++ dg L k n
  | 0, n => by simp [dg]
  | k + 1, n => by
    rw [dg, dg_succ L k (n / L), Nat.div_div_eq_div_mul, ← Nat.pow_succ', List.append_assoc]
    rfl
theorem range_mul (b : Nat) : ∀ a, List.range (a * b) = (List.range a).flatMap fun q => (List.range b).map fun x => q * b + x
  | 0 => by simp
  | a + 1 => by
    rw [Nat.succ_mul, List.range_add, range_mul b a, List.range_succ, List.flatMap_append]
    simp
theorem rows_dg (L : Nat) : ∀ k, (List.range (L ^ k)).map (dg L k) = rowsI L k
  | 0 => by simp [rowsI, dg]
  | k + 1 => by
    rw [Nat.pow_succ, range_mul, List.map_flatMap, rowsI, ← rows_dg L k, List.flatMap_map]
    congr 1
    funext q
    rw [List.map_map]
    refine List.map_congr_left fun x hx => ?_
    rw [List.mem_range] at hx
    have hL : 0 < L := by omega
    show dg L (k + 1) (q * L + x) = dg L k q ++ [(x : Int)]
    rw [dg, Nat.mul_comm q L, Nat.mul_add_div hL, Nat.div_eq_of_lt hx, Nat.add_zero, Nat.mul_add_mod, Nat.mod_eq_of_lt hx]
/-! ### told forms -/
noncomputable def isTold (w : List Int × List Int) : Bool := decide (told (sq w.1 w.2) = w)
def noShort (r : List Int) : Prop := ∀ q, 1 ≤ q → q < r.length → r.length % q = 0 → (List.replicate (r.length / q) (r.take q)).flatten ≠ r
theorem isTold_iff {b r : List Int} (hr : r ≠ []) : told (sq b r) = (b, r) ↔ (∀ c x, b = c ++ [x] → ∀ d, r ≠ d ++ [x]) ∧ noShort r := by
  have rp : 1 ≤ r.length := List.length_pos_iff.mpr hr
  constructor
  · intro e
    obtain ⟨t1, t2, t3⟩ := told_len (b := b) hr
    refine ⟨fun c x hc d hd => ?_, fun q h1 h2 h3 h4 => ?_⟩
    · have := told_len (b := c) (r := x :: d) (by simp)
      rw [rot_step, ← hc, ← hd, e] at this
      have h := this.1
      rw [hc, List.length_append] at h
      simp at h
      omega
    · have p := (rep_iff h1 (Nat.le_of_lt h2) h3).mp h4
      have e2 : sq b (r.take q) = sq b r := funext fun n => by
        by_cases z : n < b.length
        · rw [sq_lt z, sq_lt z]
        · have z : b.length ≤ n := by omega
          have tq : (r.take q).length = q := by rw [List.length_take]; omega
          have e3 : sq [] (r.take q) (n - b.length) = sq [] r (n - b.length) := by
            rw [nil_ge, tq]
            have hm : (n - b.length) % q < q := Nat.mod_lt _ (by omega)
            rw [List.getD_eq_getElem?_getD, List.getElem?_take_of_lt hm, ← List.getD_eq_getElem?_getD]
            have := p.mul ((n - b.length) / q) ((n - b.length) % q) (Nat.zero_le _)
            rw [Nat.mod_add_div] at this
            rw [this, nil_ge, Nat.mod_eq_of_lt (by omega : (n - b.length) % q < r.length)]
          have a1 := sq_tail (b := b) (r := r.take q) (n - b.length)
          have a2 := sq_tail (b := b) (r := r) (n - b.length)
          rw [show b.length + (n - b.length) = n by omega] at a1 a2
          rw [a1, a2, e3]
      have ne : r.take q ≠ [] := fun z => by
        have := congrArg List.length z
        rw [List.length_take, List.length_nil] at this
        omega
      have := (told_len (b := b) ne).2.1
      rw [e2, e, List.length_take] at this
      have : r.length ≤ min q r.length := this
      omega
  · rintro ⟨h1, h2⟩
    have sh : Short r r := short_self hr fun q a1 a2 a3 a4 => h2 q a1 a2 a3 ((rep_iff a1 (Nat.le_of_lt a2) a3).mpr a4)
    exact told_end hr rfl (short_min (b := b) sh) h1
/-! ### all words to a size -/
def blk (L m k : Nat) : List (List Int × List Int) := (rowsI L k).flatMap fun b => (rowsI L (m - k)).map fun r => (b, r)
noncomputable def lay (L m : Nat) : List (List Int × List Int) := (List.range m).flatMap fun k => (blk L m k).filter isTold
noncomputable def due (L n : Nat) : List (List Int × List Int) := (List.range n).flatMap fun m => lay L (m + 1)
theorem due_succ (L n : Nat) : due L (n + 1) = due L n ++ lay L (n + 1) := by
  unfold due
  rw [List.range_succ, List.flatMap_append]
  simp
theorem blk_len (L m k : Nat) (h : k ≤ m) : (blk L m k).length = L ^ m := by
  have : ∀ xs : List (List Int), (xs.flatMap fun b => (rowsI L (m - k)).map fun r => (b, r)).length = xs.length * L ^ (m - k) := by
    intro xs
    induction xs with
    | nil => simp
    | cons x xs ih => rw [List.flatMap_cons, List.length_append, ih, List.length_map, rowsI_len, List.length_cons, Nat.succ_mul, Nat.add_comm]
  unfold blk
  rw [this, rowsI_len, ← Nat.pow_add, show k + (m - k) = m by omega]
theorem blk_mem {L m k : Nat} {w : List Int × List Int} (hk : k < m) (h : w ∈ blk L m k) : w.1.length = k ∧ w.2.length = m - k ∧ w.2 ≠ [] ∧ (∀ x ∈ w.1, 0 ≤ x ∧ x < (L : Int)) ∧ ∀ x ∈ w.2, 0 ≤ x ∧ x < (L : Int) := by
  obtain ⟨b, hb, h⟩ := List.mem_flatMap.mp h
  obtain ⟨r, hr, rfl⟩ := List.mem_map.mp h
  obtain ⟨h1, h2⟩ := rowsI_mem hb
  obtain ⟨h3, h4⟩ := rowsI_mem hr
  refine ⟨h1, h3, fun e => ?_, h2, h4⟩
  have e : r = [] := e
  rw [e] at h3
  simp at h3
  omega
theorem lay_mem {L m : Nat} {w : List Int × List Int} (h : w ∈ lay L m) : w.1.length + w.2.length = m ∧ w.2 ≠ [] ∧ (∀ x ∈ w.1, 0 ≤ x ∧ x < (L : Int)) ∧ ∀ x ∈ w.2, 0 ≤ x ∧ x < (L : Int) := by
  obtain ⟨k, hk, h⟩ := List.mem_flatMap.mp h
  rw [List.mem_range] at hk
  have h := blk_mem hk (List.mem_filter.mp h).1
  exact ⟨by omega, h.2.2⟩
theorem due_mem {L n : Nat} {w : List Int × List Int} (h : w ∈ due L n) : 1 ≤ w.1.length + w.2.length ∧ w.1.length + w.2.length ≤ n ∧ w.2 ≠ [] ∧ (∀ x ∈ w.1, 0 ≤ x ∧ x < (L : Int)) ∧ ∀ x ∈ w.2, 0 ≤ x ∧ x < (L : Int) := by
  obtain ⟨m, hm, h⟩ := List.mem_flatMap.mp h
  rw [List.mem_range] at hm
  have h := lay_mem h
  exact ⟨by omega, by omega, h.2⟩
def cnt (L : Nat) : Nat → Nat
  | 0 => 0
  | n + 1 => cnt L n + (n + 1) * L ^ (n + 1)
theorem layp_len (L m : Nat) : ∀ j, j ≤ m → ((List.range j).flatMap fun k => (blk L m k).filter isTold).length ≤ j * L ^ m
  | 0, _ => by simp
  | j + 1, h => by
    rw [List.range_succ, List.flatMap_append, List.length_append, Nat.succ_mul]
    have := layp_len L m j (by omega)
    have h2 : ([j].flatMap fun k => (blk L m k).filter isTold).length ≤ L ^ m := by
      simp only [List.flatMap_cons, List.flatMap_nil, List.append_nil]
      exact Nat.le_trans (List.length_filter_le ..) (by rw [blk_len L m j (by omega)]; exact Nat.le_refl _)
    omega
theorem due_len (L : Nat) : ∀ n, (due L n).length ≤ cnt L n
  | 0 => by simp [due]
  | n + 1 => by
    rw [due_succ, List.length_append, cnt]
    have := due_len L n
    have h2 : (lay L (n + 1)).length ≤ (n + 1) * L ^ (n + 1) := layp_len L (n + 1) (n + 1) (Nat.le_refl _)
    omega
theorem due_few (L n : Nat) : (due L n).filter (fun w => decide (w.1.length + w.2.length < n)) = due L (n - 1) := by
  cases n with
  | zero => simp [due]
  | succ n =>
    rw [due_succ, List.filter_append, List.filter_eq_self.mpr fun w hw => ?_, List.filter_eq_nil_iff.mpr fun w hw => ?_, List.append_nil]
    · rfl
    · have := lay_mem hw; rw [decide_eq_false (by omega)]; exact Bool.false_ne_true
    · have := due_mem hw; exact decide_eq_true (by omega)
end EL

set_option Elab.async false
set_option linter.all false
set_option maxRecDepth 100000
set_option maxHeartbeats 4000000
set_option autoImplicit false
namespace EL
open PySem PySem.Spec PyProof.Rows L2
theorem newL.back {K : PySem.W.Frag} {B : Bn} {H H0 Hc : Hp} {ds : List PyData} {v : V} (e : Ex H H0) (h : newL K B H0 ds v Hc) : newL K B H ds v Hc := by
  obtain ⟨a, vs, ev, n, nb, hx, hv⟩ := h
  exact ⟨a, vs, ev, e.free n, nb, hx, hv⟩
theorem SD.ownN {K : PySem.W.Frag} {B : Bn} {H H0 : Hp} {σ : L2.St} {δ : List (Option PV)} (s : SD B H σ δ) (i : Nat) (e : δ[i]? = some (some (newL K B H0 []))) : ∃ a, ¬ B a ∧ H0 a = none ∧ H a = some (.lst []) ∧ SD B H σ (δ.set i (some (isP (.ref a)))) := by
  obtain ⟨v, e1, a, vs, ev, n, nb, h, q⟩ := s.get e
  rw [show vs = [] from q] at h
  refine ⟨a, nb, n, h, s.ok, by rw [List.length_set]; exact s.len, fun j q e2 => ?_⟩
  by_cases z : i = j
  · subst z
    have hl : i < δ.length := by
      rcases Nat.lt_or_ge i δ.length with z | z
      · exact z
      · rw [List.getElem?_eq_none z] at e; cases e
    rw [List.getElem?_set_self hl] at e2
    cases e2
    exact ⟨inferInstance, v, e1, ev⟩
  · rw [List.getElem?_set_ne z] at e2
    exact s.at_ j q e2
section
variable {R : Hp → Hp → Prop} {B : Bn} [rk : Rok B R] {K : PySem.W.Frag} {δ δ' : List (Option PV)} {H : Hp} {ta te tb : TE} {D : Ends} {σ : L2.St} {u tbd : TS} {tt : TT}
theorem st_forR2 {v : Nat} {a b : Int} (S : SD B H σ δ) (ha : Ev R B ta δ H (im K B (.int a))) (hb : Ev R B tb δ H (im K B (.int b))) (hc : -(2 ^ 62) ≤ a ∧ a < 2 ^ 62 ∧ -(2 ^ 62) ≤ b ∧ b < 2 ^ 62) (I : Nat → L2.St → Hp → Prop) (h0 : ∀ H0, R H H0 → SD B H0 σ δ → I 0 σ H0)
    (turn : ∀ i s Hc, i < (b - a).toNat → I i s Hc → tbd { D with nx := I (i + 1), ct := I (i + 1), bk := D.nx } (s.set v (some (.int (a + i)))) Hc) (done : ∀ s Hc, I (b - a).toNat s Hc → D.nx s Hc) : tFor (iRng2 (tCons ta (tCons tb tNil))) (gName v) tbd D σ H :=
  ha σ H (rk.rf H) S _ fun w H2 r2 e => hb σ H2 r2 (S.mono (rk.rb r2)) _ fun w2 H3 r3 e2 => ⟨a, b, by rw [show w = _ from e, show w2 = _ from e2], hc, for_it (walk_range (lo := a) (n := (b - a).toNat)) I (h0 H3 (rk.tr r2 r3) (S.mono (rk.rb (rk.tr r2 r3)))) (fun _ _ _ _ _ => trivial) (fun i x s Ha Hb hi p y => by
    obtain ⟨rfl, rfl⟩ := y
    exact turn i s Hb hi p) done⟩
theorem sq_forR2 {v : Nat} {a b : Int} (S : SD B H σ δ) (ha : Ev R B ta δ H (im K B (.int a))) (hb : Ev R B tb δ H (im K B (.int b))) (hc : -(2 ^ 62) ≤ a ∧ a < 2 ^ 62 ∧ -(2 ^ 62) ≤ b ∧ b < 2 ^ 62) (I : Nat → L2.St → Hp → Prop) (h0 : ∀ H0, R H H0 → SD B H0 σ δ → I 0 σ H0)
    (turn : ∀ i s Hc, i < (b - a).toNat → I i s Hc → tbd { D with nx := I (i + 1), ct := I (i + 1), bk := u D } (s.set v (some (.int (a + i)))) Hc) (done : ∀ s Hc, I (b - a).toNat s Hc → u D s Hc) : tSeq (tFor (iRng2 (tCons ta (tCons tb tNil))) (gName v) tbd) u D σ H := st_seq (st_forR2 S ha hb hc I h0 turn done)
end
section
variable {B : Bn} {K : PySem.W.Frag} {δ δ' : List (Option PV)} {H : Hp} {te : TE} {D : Ends} {σ : L2.St} {u : TS}
theorem st_pushW {i : Nat} {p : Addr} {vs : List V} {ds : List PyData} {d : PyData} (S : SD B H σ δ) (wk : Weak δ δ') (ps : PS δ') (hi : δ[i]? = some (some (isP (.ref p)))) (hp : H p = some (.lst vs)) (hv : imAll K B ds vs H) (pl : plainAll ds = true) (pd : plain d = true) (hl : ds.length < sizeLine) (he : Ev Ex B te δ H (im K B d))
    (k : ∀ v H2, Ex H H2 → SD B (upd H2 p (.lst (vs ++ [v]))) σ δ' → imAll K B (ds ++ [d]) (vs ++ [v]) (upd H2 p (.lst (vs ++ [v]))) → D.nx σ (upd H2 p (.lst (vs ++ [v])))) : tDrop (tBM K "list" rAppend (tVar i) (tCons te tNil)) D σ H := by
  refine st_lmeth (R := Ex) S (ev_var hi) (ea_cons he ea_nil) (fun H1 r1 => ⟨_, r1 _ _ hp⟩) fun us H2 r2 S2 ⟨v, r, e, hq, e2⟩ => ?_
  subst e; cases (show r = [] from e2)
  have h2 := r2 _ _ hp
  have t := TK.upd (o := .lst (vs ++ [v])) h2
  refine ⟨p, vs, v, rfl, rfl, h2, by rw [imAll_len hv]; exact hl, k v H2 r2 ((S2.weak wk).tk (fun a b => ?_) t ps) (imAll_append (imAll_tk t _ _ pl (imAll_st (RB.of_ex r2) _ _ hv)) ⟨v, [], rfl, im_tk t _ _ pd hq, rfl⟩)⟩
  by_cases z : a = p
  · subst z; rw [upd_same]; exact fun q => nomatch q
  · rw [upd_ne z]; exact S2.ok a b
theorem st_extendW {i : Nat} {p : Addr} {vs : List V} {ds es : List PyData} (S : SD B H σ δ) (wk : Weak δ δ') (ps : PS δ') (hi : δ[i]? = some (some (isP (.ref p)))) (hp : H p = some (.lst vs)) (hv : imAll K B ds vs H) (pl : plainAll ds = true) (pe : plainAll es = true) (hl : ds.length + es.length ≤ sizeLine) (he : Ev Ex B te δ H (newL K B H es))
    (k : ∀ ws H2, Ex H H2 → SD B (upd H2 p (.lst (vs ++ ws))) σ δ' → imAll K B (ds ++ es) (vs ++ ws) (upd H2 p (.lst (vs ++ ws))) → D.nx σ (upd H2 p (.lst (vs ++ ws)))) : tDrop (tBM K "list" rExtend (tVar i) (tCons te tNil)) D σ H := by
  refine st_lmeth (R := Ex) S (ev_var hi) (ea_cons he ea_nil) (fun H1 r1 => ⟨_, r1 _ _ hp⟩) fun us H2 r2 S2 ⟨v, r, e, ⟨a, ws, ea, na, nb, ha, hw⟩, e2⟩ => ?_
  subst e ea; cases (show r = [] from e2)
  have h2 := r2 _ _ hp
  have t := TK.upd (o := .lst (vs ++ ws)) h2
  refine ⟨p, a, vs, ws, rfl, rfl, h2, ha, by rw [imAll_len hv, imAll_len hw]; exact hl, k ws H2 r2 ((S2.weak wk).tk (fun a b => ?_) t ps) (imAll_append (imAll_tk t _ _ pl (imAll_st (RB.of_ex r2) _ _ hv)) (imAll_tk t _ _ pe hw))⟩
  by_cases z : a = p
  · subst z; rw [upd_same]; exact fun q => nomatch q
  · rw [upd_ne z]; exact S2.ok a b
end
theorem pow_cnt {L : Nat} : ∀ {n m : Nat}, 1 ≤ m → m ≤ n → m * L ^ m ≤ cnt L n
  | 0, m, h1, h2 => by omega
  | n + 1, m, h1, h2 => by
    rw [cnt]
    rcases Nat.eq_or_lt_of_le h2 with e | e
    · rw [e]; omega
    · have := pow_cnt (L := L) h1 (show m ≤ n by omega); omega
theorem cnt_le {L : Nat} : ∀ {n m : Nat}, m ≤ n → cnt L m ≤ cnt L n
  | 0, m, h => by rw [Nat.le_zero.mp h]; exact Nat.le_refl _
  | n + 1, m, h => by
    rcases Nat.eq_or_lt_of_le h with e | e
    · rw [e]; exact Nat.le_refl _
    · rw [cnt]; have := cnt_le (L := L) (show m ≤ n by omega); omega
theorem pow_le {L n m : Nat} (h : 1 ≤ L) (hm : m ≤ n) : L ^ m ≤ L ^ n := Nat.pow_le_pow_right h hm
theorem dg_len (L : Nat) : ∀ k n, (dg L k n).length = k
  | 0, _ => rfl
  | k + 1, n => by rw [dg, List.length_append, dg_len L k]; rfl
theorem plain_tIs (xs : List (List Int)) : plainAll (xs.map tI) = true := plainAll_iff.mpr fun d hd => by obtain ⟨w, _, rfl⟩ := List.mem_map.mp hd; exact plain_tI _
end EL

set_option Elab.async false
set_option linter.all false
set_option maxRecDepth 100000
set_option maxHeartbeats 4000000
set_option autoImplicit false
namespace EL
open PySem PySem.Spec PyProof.Rows L2
section
variable {B : Bn} {K : PySem.W.Frag} {δ δ' : List (Option PV)} {H : Hp} {te : TE} {D : Ends} {σ : L2.St} {u : TS}
/-- own.extend(a new list); the own list is of B -/
theorem st_extendB {i : Nat} {p : Addr} {vs : List V} {es : List PyData} (S : SD B H σ δ) (hi : δ[i]? = some (some (isP (.ref p)))) (hb : B p) (hp : H p = some (.lst vs)) (hl : vs.length + es.length ≤ sizeLine) (he : Ev Ex B te δ H (newL K B H es))
    (k : ∀ ws H2, Ex H H2 → SD B (upd H2 p (.lst (vs ++ ws))) σ δ → imAll K B es ws (upd H2 p (.lst (vs ++ ws))) → RB B H (upd H2 p (.lst (vs ++ ws))) → D.nx σ (upd H2 p (.lst (vs ++ ws)))) : tDrop (tBM K "list" rExtend (tVar i) (tCons te tNil)) D σ H := by
  refine st_lmeth (R := Ex) S (ev_var hi) (ea_cons he ea_nil) (fun H1 r1 => ⟨_, r1 _ _ hp⟩) fun us H2 r2 S2 ⟨v, r, e, ⟨a, ws, ea, na, nb, ha, hw⟩, e2⟩ => ?_
  subst e ea; cases (show r = [] from e2)
  have h2 := r2 _ _ hp
  have rb := RB.updB (RB.refl H2) hb h2 (o := .lst (vs ++ ws))
  exact ⟨p, a, vs, ws, rfl, rfl, h2, ha, by rw [imAll_len hw]; exact hl, k ws H2 r2 (S2.mono rb) (imAll_st rb _ _ hw) ((RB.of_ex r2).trans rb)⟩
end
abbrev plus (B : Bn) (p : Addr) : Bn := fun a => B a ∨ a = p
theorem plus.ok {B : Bn} {p : Addr} {H : Hp} {xs : List V} (o : BOk B H) (h : H p = some (.lst xs)) : BOk (plus B p) H := fun a z => z.elim (o a) fun e => by rw [e, h]; exact fun q => nomatch q
/-! ### data of many words, shown -/
theorem showableAll_of : ∀ {ds : List PyData}, (∀ d ∈ ds, PyData.showable d = true) → PyData.showableAll ds = true
  | [], _ => by simp [PyData.showableAll]
  | d :: ds, h => by simp only [PyData.showableAll, h d (List.mem_cons_self ..), showableAll_of fun e he => h e (List.mem_cons_of_mem _ he), Bool.and_self]
theorem hasDictAll_of : ∀ {ds : List PyData}, (∀ d ∈ ds, PyData.hasDict d = false) → PyData.hasDictAll ds = false
  | [], _ => by simp [PyData.hasDictAll]
  | d :: ds, h => by simp only [PyData.hasDictAll, h d (List.mem_cons_self ..), hasDictAll_of fun e he => h e (List.mem_cons_of_mem _ he), Bool.or_self]
theorem leavesShortAll_of {n : Nat} : ∀ {ds : List PyData}, (∀ d ∈ ds, PyData.leavesShort n d = true) → PyData.leavesShortAll n ds = true
  | [], _ => by simp [PyData.leavesShortAll]
  | d :: ds, h => by simp only [PyData.leavesShortAll, h d (List.mem_cons_self ..), leavesShortAll_of fun e he => h e (List.mem_cons_of_mem _ he), Bool.and_self]
theorem weightAll_of {n : Nat} : ∀ {ds : List PyData}, (∀ d ∈ ds, PyData.weight d ≤ n) → PyData.weightAll ds ≤ (n + 1) * ds.length
  | [], _ => by simp [PyData.weightAll]
  | d :: ds, h => by
    have h1 := h d (List.mem_cons_self ..)
    have h2 := weightAll_of fun e he => h e (List.mem_cons_of_mem _ he)
    simp only [PyData.weightAll, List.length_cons]
    rw [Nat.mul_succ]
    omega
theorem shows_tup {ds : List PyData} {n m : Nat} (h1 : ∀ d ∈ ds, PyData.showable d = true) (h2 : ∀ d ∈ ds, PyData.hasDict d = false) (h3 : ∀ d ∈ ds, PyData.leavesShort 13 d = true) (h4 : ∀ d ∈ ds, PyData.weight d ≤ n) (h5 : ∀ d ∈ ds, PyData.depth d ≤ m) (hm : m ≤ 60) (hl : (n + 1) * ds.length ≤ 2 ^ 20) : Shows (.tuple ds) := by
  refine ⟨?_, ?_, ?_, ?_⟩
  · simp only [PyData.showable, showableAll_of h1]
  · simp only [PyData.hasDict, hasDictAll_of h2]
  · have := depthAll_of h5
    simp only [PyData.depth]
    omega
  · refine PyData.shown_fits (B := 13) (by decide) (by decide) ?_ ?_
    · simp only [PyData.leavesShort, leavesShortAll_of h3]
    · simp only [PyData.weight]
      exact Nat.le_trans (weightAll_of h4) hl
theorem shows_wds {ws : List (List Int × List Int)} (h : ∀ w ∈ ws, w.1.length + w.2.length ≤ 20 ∧ (∀ x ∈ w.1, 0 ≤ x ∧ x < 1000) ∧ ∀ x ∈ w.2, 0 ≤ x ∧ x < 1000) (hl : ws.length ≤ 4000) : Shows (.tuple (ws.map wdp)) := by
  have mem : ∀ {Pd : PyData → Prop}, (∀ w ∈ ws, Pd (wdp w)) → ∀ d ∈ ws.map wdp, Pd d := fun {Pd} z d hd => by obtain ⟨w, hw, rfl⟩ := List.mem_map.mp hd; exact z w hw
  refine shows_tup (n := 230) (m := 5) (mem fun w hw => ?_) (mem fun w hw => ?_) (mem fun w hw => ?_) (mem fun w hw => ?_) (mem fun w hw => depth_wd _ _) (by decide) ?_
  · obtain ⟨_, a, b⟩ := h w hw
    simp only [PyData.showable, PyData.showableAll, showableAll_small a, showableAll_small b, Bool.and_self]
  · simp only [PyData.hasDict, PyData.hasDictAll, hasDictAll_ints, Bool.or_self]
  · obtain ⟨_, a, b⟩ := h w hw
    simp only [PyData.leavesShort, PyData.leavesShortAll, leavesShortAll_small a, leavesShortAll_small b, Bool.and_self]
  · obtain ⟨l, a, b⟩ := h w hw
    have h1 := weightAll_small a
    have h2 := weightAll_small b
    simp only [PyData.weight, PyData.weightAll]
    omega
  · rw [List.length_map]
    have : (230 + 1) * ws.length ≤ 231 * 4000 := Nat.mul_le_mul_left _ hl
    have : (2 : Nat) ^ 20 = 1048576 := by decide
    omega
theorem eqvAll_wds : ∀ xs : List (List Int × List Int), PyData.eqvAll (xs.map wdp) (xs.map wdp) = true
  | [] => by simp [PyData.eqvAll]
  | x :: xs => by
    rw [List.map_cons, PyData.eqvAll, eqv_wd, eqvAll_wds xs]; simp
theorem filter_blk (L m k : Nat) : (blk L m k).filter isTold = (rowsI L k).flatMap fun b => ((rowsI L (m - k)).filter fun r => isTold (b, r)).map fun r => (b, r) := by
  unfold blk
  rw [List.filter_flatMap]
  congr 1
  funext b
  rw [List.filter_map]
  rfl
end EL

set_option Elab.async false
set_option linter.all false
set_option maxRecDepth 100000
set_option maxHeartbeats 4000000
set_option autoImplicit false
namespace EL
open PySem PySem.Spec PyProof.Rows L2
/-! ### words alike at all places -/
theorem per_eq {f g : Nat → Int} {M p q : Nat} (hp : 1 ≤ p) (hq : 1 ≤ q) (hf : Per f M p) (hg : Per g M q) (h : ∀ i, i < M + p * q → f i = g i) : f = g := funext fun n => by
  have pq : 1 ≤ p * q := Nat.mul_pos hp hq
  by_cases z : n < M + p * q
  · exact h n z
  · have f1 : Per f M (p * q) := hf.mul q
    have g1 : Per g M (p * q) := by rw [Nat.mul_comm]; exact hg.mul p
    have e : n = (M + (n - M) % (p * q)) + (p * q) * ((n - M) / (p * q)) := by have := Nat.mod_add_div (n - M) (p * q); omega
    have f2 := (f1.mul ((n - M) / (p * q))) (M + (n - M) % (p * q)) (by omega)
    have g2 := (g1.mul ((n - M) / (p * q))) (M + (n - M) % (p * q)) (by omega)
    rw [← e] at f2 g2
    rw [f2, g2]
    exact h _ (by have := Nat.mod_lt (n - M) pq; omega)
theorem alike_iff {b r b' r' : List Int} (hr : r ≠ []) (hr' : r' ≠ []) : (∀ i, i < max b.length b'.length + r.length * r'.length → sq b r i = sq b' r' i) ↔ sq b r = sq b' r' := by
  refine ⟨fun h => per_eq (M := max b.length b'.length) (List.length_pos_iff.mpr hr) (List.length_pos_iff.mpr hr') (sq_per _ (by omega)) (sq_per _ (by omega)) h, fun h i _ => by rw [h]⟩
theorem told_inj {b r b' r' : List Int} (hr : r ≠ []) (hr' : r' ≠ []) : told (sq b r) = told (sq b' r') ↔ sq b r = sq b' r' := by
  refine ⟨fun h => ?_, fun h => by rw [h]⟩
  rw [← sq_told hr, ← sq_told hr', h]
/-! ### rows rise -/
theorem lx_irr (xs : List Int) : lx xs xs = false := lx_self xs
theorem lx_asym : ∀ {xs ys : List Int}, lx xs ys = true → lx ys xs = false
  | [], _, h => by simp [lx] at h
  | _ :: _, [], h => by simp [lx] at h
  | x :: xs, y :: ys, h => by
    rw [lx] at h ⊢
    by_cases z : x = y
    · rw [if_pos z] at h
      rw [if_pos z.symm]
      exact lx_asym h
    · rw [if_neg z] at h
      rw [if_neg (fun e => z e.symm)]
      have := of_decide_eq_true h
      exact decide_eq_false (by omega)
abbrev lxP (a b : List Int) : Prop := lx a b = true
theorem rows_rise (L : Nat) : ∀ n, (rowsI L n).Pairwise lxP
  | 0 => by simp [rowsI]
  | n + 1 => by
    rw [rowsI, List.pairwise_flatMap]
    refine ⟨fun row _ => ?_, ?_⟩
    · rw [List.pairwise_map]
      refine List.Pairwise.imp ?_ (List.pairwise_lt_range (n := L))
      intro a b hab
      show lx (row ++ [(a : Int)]) (row ++ [(b : Int)]) = true
      rw [lx_app _ _ rfl, if_pos rfl, lx, if_neg (by omega)]
      exact decide_eq_true (by omega)
    · refine List.Pairwise.imp_of_mem ?_ (rows_rise L n)
      intro a b ha hb hab x hx y hy
      obtain ⟨i, _, rfl⟩ := List.mem_map.mp hx
      obtain ⟨j, _, rfl⟩ := List.mem_map.mp hy
      show lx _ _ = true
      rw [lx_app _ _ (by rw [(rowsI_mem ha).1, (rowsI_mem hb).1]), if_neg]
      · exact hab
      · intro e
        have : lx a b = true := hab
        rw [e, lx_self] at this
        cases this
abbrev ahP (a b : List Int × List Int) : Prop := aheadB a.1 a.2 b.1 b.2 = true
theorem blk_rise (L m k : Nat) (hk : k < m) : (blk L m k).Pairwise ahP := by
  unfold blk
  rw [List.pairwise_flatMap]
  refine ⟨fun b hb => ?_, ?_⟩
  · rw [List.pairwise_map]
    refine List.Pairwise.imp_of_mem ?_ (rows_rise L (m - k))
    intro r r' hr hr' h
    show aheadB b r b r' = true
    unfold aheadB
    rw [if_pos (by rw [(rowsI_mem hr).1, (rowsI_mem hr').1]), if_pos rfl, lx_app _ _ rfl, if_pos rfl]
    exact h
  · refine List.Pairwise.imp_of_mem ?_ (rows_rise L k)
    intro b b' hb hb' h x hx y hy
    obtain ⟨r, hr, rfl⟩ := List.mem_map.mp hx
    obtain ⟨r', hr', rfl⟩ := List.mem_map.mp hy
    show aheadB b r b' r' = true
    have l1 := (rowsI_mem hb).1; have l2 := (rowsI_mem hb').1; have l3 := (rowsI_mem hr).1; have l4 := (rowsI_mem hr').1
    unfold aheadB
    rw [if_pos (by omega), if_pos (by omega), lx_app _ _ (by omega), if_neg]
    · exact h
    · intro e
      have : lx b b' = true := h
      rw [e, lx_self] at this
      cases this
theorem lay_rise (L m : Nat) : (lay L m).Pairwise ahP := by
  unfold lay
  rw [List.pairwise_flatMap]
  refine ⟨fun k hk => ?_, ?_⟩
  · rw [List.mem_range] at hk
    exact (blk_rise L m k hk).filter _
  · refine List.Pairwise.imp_of_mem ?_ (List.pairwise_lt_range (n := m))
    intro k k' hk hk' h x hx y hy
    rw [List.mem_range] at hk hk'
    have g1 := blk_mem hk (List.mem_filter.mp hx).1
    have g2 := blk_mem hk' (List.mem_filter.mp hy).1
    show aheadB _ _ _ _ = true
    unfold aheadB
    rw [if_pos (by omega), if_neg (by omega)]
    exact decide_eq_true (by omega)
theorem due_rise (L n : Nat) : (due L n).Pairwise ahP := by
  unfold due
  rw [List.pairwise_flatMap]
  refine ⟨fun k _ => lay_rise L (k + 1), ?_⟩
  refine List.Pairwise.imp ?_ (List.pairwise_lt_range (n := n))
  intro k k' h x hx y hy
  have g1 := lay_mem hx
  have g2 := lay_mem hy
  show aheadB _ _ _ _ = true
  unfold aheadB
  rw [if_neg (by omega)]
  exact decide_eq_true (by omega)
theorem ah_irr (a : List Int × List Int) : aheadB a.1 a.2 a.1 a.2 = false := by unfold aheadB; rw [if_pos rfl, if_pos rfl, lx_self]
theorem ah_asym {a b : List Int × List Int} (h : aheadB a.1 a.2 b.1 b.2 = true) : aheadB b.1 b.2 a.1 a.2 = false := by
  unfold aheadB at h ⊢
  by_cases z : a.1.length + a.2.length = b.1.length + b.2.length
  · rw [if_pos z] at h
    rw [if_pos z.symm]
    by_cases y : a.1.length = b.1.length
    · rw [if_pos y] at h
      rw [if_pos y.symm]
      exact lx_asym h
    · rw [if_neg y] at h
      rw [if_neg (fun e => y e.symm)]
      have := of_decide_eq_true h
      exact decide_eq_false (by omega)
  · rw [if_neg z] at h
    rw [if_neg (fun e => z e.symm)]
    have := of_decide_eq_true h
    exact decide_eq_false (by omega)
/-- in a rising list those ahead of one stand before it -/
theorem rise_index : ∀ {ws : List (List Int × List Int)} {w : List Int × List Int}, ws.Pairwise ahP → w ∈ ws → ∃ n, n < ws.length ∧ ws[n]? = some w ∧ (∀ j, j < n → ws[j]? ≠ some w) ∧ (ws.filter fun v => aheadB v.1 v.2 w.1 w.2).length = n
  | [], w, _, h => nomatch h
  | v :: ws, w, hp, h => by
    rw [List.pairwise_cons] at hp
    by_cases e : v = w
    · refine ⟨0, Nat.zero_lt_succ _, by rw [e]; rfl, fun j hj => by omega, ?_⟩
      rw [List.filter_cons_of_neg (by rw [e, ah_irr]; exact Bool.false_ne_true), List.filter_eq_nil_iff.mpr, List.length_nil]
      intro x hx
      have := hp.1 x hx
      rw [e] at this
      rw [ah_asym this]
      exact Bool.false_ne_true
    · have hw : w ∈ ws := by
        rcases List.mem_cons.mp h with z | z
        · exact absurd z.symm e
        · exact z
      obtain ⟨n, h1, h2, h3, h4⟩ := rise_index hp.2 hw
      refine ⟨n + 1, by rw [List.length_cons]; omega, by rw [List.getElem?_cons_succ]; exact h2, fun j hj => ?_, ?_⟩
      · cases j with
        | zero => rw [List.getElem?_cons_zero]; exact fun z => e (Option.some.inj z)
        | succ j => rw [List.getElem?_cons_succ]; exact h3 j (by omega)
      · have q : aheadB v.1 v.2 w.1 w.2 = true := hp.1 w hw
        rw [List.filter_cons]
        simp only [q, if_true]
        rw [List.length_cons, h4]
/-- each row of letters is there -/
theorem rowsI_all {L : Nat} : ∀ {row : List Int}, (∀ x ∈ row, 0 ≤ x ∧ x < (L : Int)) → row ∈ rowsI L row.length := by
  intro row
  generalize hn : row.length = n
  induction n generalizing row with
  | zero => intro _; rw [List.length_eq_zero_iff.mp hn, rowsI]; exact List.mem_singleton.mpr rfl
  | succ n ih =>
    intro h
    rcases List.eq_nil_or_concat row with e | ⟨c, x, e⟩
    · rw [e] at hn; cases hn
    · rw [List.concat_eq_append] at e
      subst e
      rw [List.length_append] at hn
      have hx := h x (List.mem_append_right _ (List.mem_singleton.mpr rfl))
      rw [rowsI]
      refine List.mem_flatMap.mpr ⟨c, ih (by simp at hn; omega) fun y hy => h y (List.mem_append_left _ hy), List.mem_map.mpr ⟨x.toNat, List.mem_range.mpr (by omega), ?_⟩⟩
      rw [Int.toNat_of_nonneg hx.1]
theorem due_all {L n : Nat} {b r : List Int} (hr : r ≠ []) (hb : ∀ x ∈ b, 0 ≤ x ∧ x < (L : Int)) (hr2 : ∀ x ∈ r, 0 ≤ x ∧ x < (L : Int)) (ht : told (sq b r) = (b, r)) (hn : b.length + r.length ≤ n) : (b, r) ∈ due L n := by
  have rp : 1 ≤ r.length := List.length_pos_iff.mpr hr
  refine List.mem_flatMap.mpr ⟨b.length + r.length - 1, List.mem_range.mpr (by omega), ?_⟩
  rw [show b.length + r.length - 1 + 1 = b.length + r.length by omega]
  refine List.mem_flatMap.mpr ⟨b.length, List.mem_range.mpr (by omega), List.mem_filter.mpr ⟨List.mem_flatMap.mpr ⟨b, rowsI_all hb, List.mem_map.mpr ⟨r, ?_, rfl⟩⟩, decide_eq_true ht⟩⟩
  rw [show b.length + r.length - b.length = r.length by omega]
  exact rowsI_all hr2
end EL

set_option Elab.async false
set_option linter.all false
set_option maxRecDepth 100000
set_option maxHeartbeats 4000000
set_option autoImplicit false
namespace EL
open PySem PySem.Spec PyProof.Rows L2
theorem op_inDK {X : Cx} (K : PySem.W.Frag) (hu : X.A.units + 66 < cLine) (h : X.K = K := by rfl) : OpR X (compareOp .In) (rInD K) := h ▸ op_inD (by omega)
theorem op_notInDK {X : Cx} (K : PySem.W.Frag) (hu : X.A.units + 66 < cLine) (h : X.K = K := by rfl) : OpR X (compareOp .NotIn) (rNotInD K) := h ▸ op_notInD (by omega)
theorem mt_indexDK {X : Cx} (K : PySem.W.Frag) (hu : X.A.units + 66 < cLine) (h : X.K = K := by rfl) : MtR X "list.index" (rIndexD K) := h ▸ mt_indexD (by omega)
section
variable {R : Hp → Hp → Prop} {B : Bn} [rk : Rok B R] {K : PySem.W.Frag} {δ : List (Option PV)} {H : Hp} {ta te tb : TE}
theorem ev_inD {d : PyData} {ds : List PyData} (ha : Ev R B ta δ H (im K B d)) (hb : Ev R B tb δ H (im K B (.list ds))) (h1 : SeqAt.shaped d = true) (h2 : SeqAt.shaped (.list ds) = true) : Ev R B (tOp (rInD K) ta tb) δ H (im K B (.bool (ds.any fun z => PyData.eqv z d))) :=
  ev_op ha hb fun x y H1 _ _ hx hy Q k => ⟨d, ds, im_dp _ _ hx, im_dp _ _ hy, h1, h2, k _ H1 (Ex.refl H1) rfl⟩
theorem ev_notInD {d : PyData} {ds : List PyData} (ha : Ev R B ta δ H (im K B d)) (hb : Ev R B tb δ H (im K B (.list ds))) (h1 : SeqAt.shaped d = true) (h2 : SeqAt.shaped (.list ds) = true) : Ev R B (tOp (rNotInD K) ta tb) δ H (im K B (.bool (!ds.any fun z => PyData.eqv z d))) :=
  ev_op ha hb fun x y H1 _ _ hx hy Q k => ⟨d, ds, im_dp _ _ hx, im_dp _ _ hy, h1, h2, k _ H1 (Ex.refl H1) rfl⟩
theorem ev_indexD {d z : PyData} {ds : List PyData} {j : Nat} (ha : Ev R B ta δ H (im K B (.list ds))) (hb : Ev R B tb δ H (im K B d)) (h1 : SeqAt.shaped (.list ds) = true) (h2 : SeqAt.shaped d = true) (h3 : ds[j]? = some z) (h4 : PyData.eqv z d = true) (h5 : ∀ (m : Nat) (z' : PyData), m < j → ds[m]? = some z' → PyData.eqv z' d = false) :
    Ev R B (tBM K "list" (rIndexD K) ta (tCons tb tNil)) δ H (im K B (.int (j : Nat))) := fun σ H1 r1 S Q k => ha σ H1 r1 S _ fun x H2 r2 hx => by
  obtain ⟨a, vs, ex, nb, s, hv⟩ := id hx
  subst ex
  refine ⟨.inl ⟨rfl, vs, s⟩, ea_cons (ps := []) hb ea_nil σ H2 (rk.tr r1 r2) (S.mono (rk.rb r2)) _ fun us H3 r3 ⟨y, r, e, hy, e2⟩ => ?_⟩
  subst e; cases (show r = [] from e2)
  exact ⟨a, y, d, ds, j, z, rfl, rfl, im_dp _ _ (im_st (rk.rb r3) _ _ hx), im_dp _ _ hy, h1, h2, h3, h4, h5, k _ H3 (rk.tr r2 r3) rfl⟩
theorem ev_intB {b : Bool} (ha : Ev R B ta δ H (im K B (.bool b))) : Ev R B (tCB (fun xs H Q => (∃ i, xs = [.int i] ∧ Q (.int i) H) ∨ ∃ k, xs = [.bl k] ∧ Q (.int (if k then 1 else 0)) H) (tCons ta tNil)) δ H (im K B (.int (if b then 1 else 0))) :=
  ev_cb (ea_cons ha ea_nil) fun vs H1 _ _ ⟨v, r, e, h1, e3⟩ Q k => by
    subst e; cases (show r = [] from e3)
    rw [show v = _ from h1]
    exact .inr ⟨b, rfl, k _ H1 (rk.rf H1) rfl⟩
theorem ev_mulN {C : Int → Prop} {j : Int} (ha : Ev R B ta δ H (intP C)) (hb : Ev R B tb δ H (im K B (.int j))) (hc : ∀ i, C i → -(2 ^ 64) < i ∧ i < 2 ^ 64) : Ev R B (tOp (rMulU K) ta tb) δ H (intP fun k => ∃ i, C i ∧ k = i * j) :=
  ev_op ha hb fun x y H1 _ _ ⟨i, c, hx⟩ hy Q k => .inl ⟨i, j, hx, hy, .inl (hc i c), k _ H1 (Ex.refl H1) ⟨i * j, ⟨i, c, rfl⟩, rfl⟩⟩
end
theorem any_wds {ws : List (List Int × List Int)} {w : List Int × List Int} (h : w ∈ ws) : ((ws.map wdp).any fun z => PyData.eqv z (wdp w)) = true := by
  rw [List.any_map, List.any_eq_true]
  exact ⟨w, h, by show PyData.eqv (wdp w) (wdp w) = true; rw [eqv_wd]; simp⟩
end EL

set_option Elab.async false
set_option linter.all false
set_option maxRecDepth 100000
set_option maxHeartbeats 4000000
set_option autoImplicit false
namespace EL
open PySem PySem.Spec PyProof.Rows L2
section
variable {B : Bn} {h l : Addr} [hs : Has B h l] {K : PySem.W.Frag} {δ : List (Option PV)} {H : Hp} {te : TE} {D : Ends} {σ : L2.St}
/-- own.append(what the hand gives) -/
theorem st_pushH {α : Type} {C : α → Prop} {g : α → PyData} {i : Nat} {p : Addr} {vs : List V} {ds : List PyData} (S : SD B H σ δ) (ps : PS δ) (hi : δ[i]? = some (some (isP (.ref p)))) (nb : ¬ B p) (hp : H p = some (.lst vs)) (hv : imAll K B ds vs H) (pl : plainAll ds = true) (pd : ∀ a, plain (g a) = true) (hl : ds.length < sizeLine) (he : Ev (Rh h l) B te δ H (exP C fun a => im K B (g a)))
    (k : ∀ a v H2, C a → Rh h l H H2 → SD B (upd H2 p (.lst (vs ++ [v]))) σ δ → imAll K B (ds ++ [g a]) (vs ++ [v]) (upd H2 p (.lst (vs ++ [v]))) → D.nx σ (upd H2 p (.lst (vs ++ [v])))) : tDrop (tBM K "list" rAppend (tVar i) (tCons te tNil)) D σ H := by
  refine st_lmeth (R := Rh h l) S (ev_var hi) (ea_cons he ea_nil) (fun H1 r1 => ⟨_, (Rok.rb (B := B) r1).keep _ _ nb hp⟩) fun us H2 r2 S2 ⟨v, r, e, ⟨a, c, hq⟩, e2⟩ => ?_
  subst e; cases (show r = [] from e2)
  have rb : RB B H H2 := Rok.rb r2
  have h2 := rb.keep _ _ nb hp
  have t := TK.upd (o := .lst (vs ++ [v])) h2
  refine ⟨p, vs, v, rfl, rfl, h2, by rw [imAll_len hv]; exact hl, k a v H2 c r2 (S2.tk (fun a b => ?_) t ps) (imAll_append (imAll_tk t _ _ pl (imAll_st rb _ _ hv)) ⟨v, [], rfl, im_tk t _ _ (pd a) hq, rfl⟩)⟩
  by_cases z : a = p
  · subst z; rw [upd_same]; exact fun q => nomatch q
  · rw [upd_ne z]; exact S2.ok a b
end
theorem told_shift {b r : List Int} (hr : r ≠ []) (k : Nat) : sq (told (shift (sq b r) k)).1 (told (shift (sq b r) k)).2 = shift (sq b r) k ∧ (told (shift (sq b r) k)).2 ≠ [] := by
  have rp : 1 ≤ r.length := List.length_pos_iff.mpr hr
  have key : ∀ {c d : List Int}, d ≠ [] → sq c d = shift (sq b r) k → sq (told (shift (sq b r) k)).1 (told (shift (sq b r) k)).2 = shift (sq b r) k ∧ (told (shift (sq b r) k)).2 ≠ [] := fun {c d} hd e => by
    rw [← e]; exact ⟨sq_told hd, (told_len (b := c) hd).2.2⟩
  by_cases z : k ≤ b.length
  · exact key hr (sq_drop z)
  · have hm := Nat.mod_lt (k - b.length) rp
    refine key (fun e => ?_) (sq_rot (b := b) hr (by omega))
    have := rot_len' hm
    rw [e] at this
    simp only [List.length_nil] at this
    omega
theorem told_told {b r : List Int} (hr : r ≠ []) : told (sq (told (sq b r)).1 (told (sq b r)).2) = told (sq b r) := by rw [sq_told hr]
theorem due_told {L n : Nat} {w : List Int × List Int} (h : w ∈ due L n) : told (sq w.1 w.2) = w := by
  obtain ⟨m, _, h⟩ := List.mem_flatMap.mp h
  obtain ⟨k, _, h⟩ := List.mem_flatMap.mp h
  exact of_decide_eq_true (List.mem_filter.mp h).2
end EL

set_option Elab.async false
set_option linter.all false
set_option maxRecDepth 100000
set_option maxHeartbeats 4000000
set_option autoImplicit false
namespace UX
open PySem PySem.Spec PyProof.Rows L2
open EL (Ex RB BOk Bn TK)
/-! ### values -/
inductive U where
  | non | bl (b : Bool) | int (i : Int) | str (x : Str)
  | tup (us : List U) | lst (us : List U)
  | dct (ks : List Key) (us : List U)
  | dcT (ks : List (List Key)) (us : List U)
  | obj (c : Str) (ns : List Str) (us : List U)
  | top (x : Str)
  | frl (us : List U)
  | loc (i : Nat)
structure Cxt where
  K : PySem.W.Frag
  at_ : Str → Addr
/-- a list that is read alone (the script) -/
def FrL (K : PySem.W.Frag) (B : Bn) (H : Hp) (a : Addr) (vs : List V) : Prop := (¬ B a ∧ H a = some (.lst vs)) ∨ (∃ o, H a = some (.frz o (.lst vs))) ∨ SqL K (fun _ => none) a vs
theorem FrL.sq {K : PySem.W.Frag} {B : Bn} {H : Hp} {a : Addr} {vs : List V} (h : FrL K B H a vs) : SqL K H a vs := by
  rcases h with ⟨_, h⟩ | ⟨o, h⟩ | h
  · exact .inl (.inl h)
  · exact .inl (.inr ⟨o, h⟩)
  · rcases h with (h | ⟨o, h⟩) | h
    · cases h
    · cases h
    · exact .inr h
theorem FrL.of {K : PySem.W.Frag} {B : Bn} {H : Hp} {a : Addr} {vs : List V} (nb : ¬ B a) (h : SqL K H a vs) : FrL K B H a vs := by
  rcases h with (h | ⟨o, h⟩) | h
  · exact .inl ⟨nb, h⟩
  · exact .inr (.inl ⟨o, h⟩)
  · exact .inr (.inr (.inr h))
/-- a dict is kept: as it is, or locked -/
structure Kd (B : Bn) (H H' : Hp) : Prop where
  lst : ∀ a xs, ¬ B a → H a = some (.lst xs) → H' a = some (.lst xs)
  ins : ∀ a C dx fs, ¬ B a → H a = some (.ins C dx fs) → H' a = some (.ins C dx fs)
  dK : ∀ a kvs, ¬ B a → Rd H a (.dK kvs) → Rd H' a (.dK kvs)
  dT : ∀ a kvs, ¬ B a → Rd H a (.dT kvs) → Rd H' a (.dT kvs)
  tup : ∀ a xs, H a = some (.tup xs) → H' a = some (.tup xs)
  ftup : ∀ a o xs, H a = some (.frz o (.tup xs)) → H' a = some (.frz o (.tup xs))
  flst : ∀ a o xs, H a = some (.frz o (.lst xs)) → H' a = some (.frz o (.lst xs))
theorem kd_of {B : Bn} {H H' : Hp} (r : RB B H H') : Kd B H H' :=
  ⟨fun a xs n h => r.keep _ _ n h, fun a C dx fs n h => r.keep _ _ n h,
   fun a kvs n h => h.elim (fun h => .inl (r.keep _ _ n h)) fun ⟨o, h⟩ => .inr ⟨o, r.frz _ _ _ h⟩,
   fun a kvs n h => h.elim (fun h => .inl (r.keep _ _ n h)) fun ⟨o, h⟩ => .inr ⟨o, r.frz _ _ _ h⟩, r.tup, fun a o xs h => r.frz _ _ _ h, fun a o xs h => r.frz _ _ _ h⟩
theorem Kd.sqT {B : Bn} {K : PySem.W.Frag} {H H' : Hp} {a : Addr} {xs : List V} (r : Kd B H H') (h : SqT K H a xs) : SqT K H' a xs := by
  rcases h with (h | ⟨o, h⟩) | h
  · exact .inl (.inl (r.tup _ _ h))
  · exact .inl (.inr ⟨o, r.ftup _ _ _ h⟩)
  · exact .inr h
theorem FrL.st {K : PySem.W.Frag} {B : Bn} {H H' : Hp} {a : Addr} {vs : List V} (r : Kd B H H') (h : FrL K B H a vs) : FrL K B H' a vs := by
  rcases h with ⟨n, h⟩ | ⟨o, h⟩ | h
  · exact .inl ⟨n, r.lst _ _ n h⟩
  · exact .inr (.inl ⟨o, r.flst _ _ _ h⟩)
  · exact .inr (.inr h)
theorem FrL.sub {K : PySem.W.Frag} {B B' : Bn} {H : Hp} {a : Addr} {vs : List V} (s : ∀ a, H a ≠ none → B' a → B a) (h : FrL K B H a vs) : FrL K B' H a vs := by
  rcases h with ⟨n, h⟩ | ⟨o, h⟩ | h
  · exact .inl ⟨fun b => n (s a (by rw [h]; exact fun z => nomatch z) b), h⟩
  · exact .inr (.inl ⟨o, h⟩)
  · exact .inr (.inr h)
theorem rd_ne {H : Hp} {a : Addr} {u : HO} (h : Rd H a u) : H a ≠ none := by
  rcases h with h | ⟨o, h⟩ <;> rw [h] <;> exact fun z => nomatch z
section
variable (G : Cxt) (rs : List Addr) (B : Bn)
mutual
def im : U → V → Hp → Prop
  | .non, v, _ => v = .non
  | .bl b, v, _ => v = .bl b
  | .int i, v, _ => v = .int i
  | .str x, v, _ => v = .str x
  | .tup us, v, H => ∃ a vs, v = .ref a ∧ H a = some (.tup vs) ∧ imAll us vs H
  | .lst us, v, H => ∃ a vs, v = .ref a ∧ ¬ B a ∧ H a = some (.lst vs) ∧ imAll us vs H
  | .dct ks us, v, H => ∃ a vs, v = .ref a ∧ ¬ B a ∧ Rd H a (.dK (ks.zip vs)) ∧ ks.length = us.length ∧ imAll us vs H
  | .dcT ks us, v, H => ∃ a vs, v = .ref a ∧ ¬ B a ∧ Rd H a (.dT (ks.zip vs)) ∧ ks.length = us.length ∧ imAll us vs H
  | .obj c ns us, v, H => ∃ a dx vs, v = .ref a ∧ ¬ B a ∧ H a = some (.ins (G.at_ c) dx (ns.zip vs)) ∧ ns.length = us.length ∧ imAll us vs H
  | .top x, v, _ => v = .ref (G.at_ x)
  | .frl us, v, H => ∃ a vs, v = .ref a ∧ FrL G.K B H a vs ∧ imAll us vs H
  | .loc i, v, _ => ∃ a, rs[i]? = some a ∧ v = .ref a
def imAll : List U → List V → Hp → Prop
  | [], vs, _ => vs = []
  | u :: us, vs, H => ∃ v r, vs = v :: r ∧ im u v H ∧ imAll us r H
end
end
section
variable {G : Cxt} {rs rs' : List Addr} {B B' : Bn} {H H' : Hp}
mutual
theorem im_kd (r : Kd B H H') : ∀ (u : U) (v : V), im G rs B u v H → im G rs B u v H'
  | .non, _, h => h
  | .bl _, _, h => h
  | .int _, _, h => h
  | .str _, _, h => h
  | .tup us, _, ⟨a, vs, e, s, q⟩ => ⟨a, vs, e, r.tup _ _ s, imAll_kd r us vs q⟩
  | .lst us, _, ⟨a, vs, e, n, s, q⟩ => ⟨a, vs, e, n, r.lst _ _ n s, imAll_kd r us vs q⟩
  | .dct ks us, _, ⟨a, vs, e, n, s, l, q⟩ => ⟨a, vs, e, n, r.dK _ _ n s, l, imAll_kd r us vs q⟩
  | .dcT ks us, _, ⟨a, vs, e, n, s, l, q⟩ => ⟨a, vs, e, n, r.dT _ _ n s, l, imAll_kd r us vs q⟩
  | .obj c ns us, _, ⟨a, dx, vs, e, n, s, l, q⟩ => ⟨a, dx, vs, e, n, r.ins _ _ _ _ n s, l, imAll_kd r us vs q⟩
  | .top _, _, h => h
  | .frl us, _, ⟨a, vs, e, s, q⟩ => ⟨a, vs, e, s.st r, imAll_kd r us vs q⟩
  | .loc _, _, h => h
theorem imAll_kd (r : Kd B H H') : ∀ (us : List U) (vs : List V), imAll G rs B us vs H → imAll G rs B us vs H'
  | [], _, h => h
  | u :: us, _, ⟨v, w, e, h1, h2⟩ => ⟨v, w, e, im_kd r u v h1, imAll_kd r us w h2⟩
end
theorem im_st (r : RB B H H') (u : U) (v : V) (h : im G rs B u v H) : im G rs B u v H' := im_kd (kd_of r) u v h
theorem imAll_st (r : RB B H H') (us : List U) (vs : List V) (h : imAll G rs B us vs H) : imAll G rs B us vs H' := imAll_kd (kd_of r) us vs h
mutual
theorem im_sub (s : ∀ a, H a ≠ none → B' a → B a) : ∀ (u : U) (v : V), im G rs B u v H → im G rs B' u v H
  | .non, _, h => h
  | .bl _, _, h => h
  | .int _, _, h => h
  | .str _, _, h => h
  | .tup us, _, ⟨a, vs, e, t, q⟩ => ⟨a, vs, e, t, imAll_sub s us vs q⟩
  | .lst us, _, ⟨a, vs, e, n, t, q⟩ => ⟨a, vs, e, fun b => n (s a (by rw [t]; exact fun z => nomatch z) b), t, imAll_sub s us vs q⟩
  | .dct ks us, _, ⟨a, vs, e, n, t, l, q⟩ => ⟨a, vs, e, fun b => n (s a (rd_ne t) b), t, l, imAll_sub s us vs q⟩
  | .dcT ks us, _, ⟨a, vs, e, n, t, l, q⟩ => ⟨a, vs, e, fun b => n (s a (rd_ne t) b), t, l, imAll_sub s us vs q⟩
  | .obj c ns us, _, ⟨a, dx, vs, e, n, t, l, q⟩ => ⟨a, dx, vs, e, fun b => n (s a (by rw [t]; exact fun z => nomatch z) b), t, l, imAll_sub s us vs q⟩
  | .top _, _, h => h
  | .frl us, _, ⟨a, vs, e, t, q⟩ => ⟨a, vs, e, t.sub s, imAll_sub s us vs q⟩
  | .loc _, _, h => h
theorem imAll_sub (s : ∀ a, H a ≠ none → B' a → B a) : ∀ (us : List U) (vs : List V), imAll G rs B us vs H → imAll G rs B' us vs H
  | [], _, h => h
  | u :: us, _, ⟨v, w, e, h1, h2⟩ => ⟨v, w, e, im_sub s u v h1, imAll_sub s us w h2⟩
end
mutual
theorem im_rs (s : ∀ (i : Nat) (a : Addr), rs[i]? = some a → rs'[i]? = some a) : ∀ (u : U) (v : V), im G rs B u v H → im G rs' B u v H
  | .non, _, h => h
  | .bl _, _, h => h
  | .int _, _, h => h
  | .str _, _, h => h
  | .tup us, _, ⟨a, vs, e, t, q⟩ => ⟨a, vs, e, t, imAll_rs s us vs q⟩
  | .lst us, _, ⟨a, vs, e, n, t, q⟩ => ⟨a, vs, e, n, t, imAll_rs s us vs q⟩
  | .dct ks us, _, ⟨a, vs, e, n, t, l, q⟩ => ⟨a, vs, e, n, t, l, imAll_rs s us vs q⟩
  | .dcT ks us, _, ⟨a, vs, e, n, t, l, q⟩ => ⟨a, vs, e, n, t, l, imAll_rs s us vs q⟩
  | .obj c ns us, _, ⟨a, dx, vs, e, n, t, l, q⟩ => ⟨a, dx, vs, e, n, t, l, imAll_rs s us vs q⟩
  | .top _, _, h => h
  | .frl us, _, ⟨a, vs, e, t, q⟩ => ⟨a, vs, e, t, imAll_rs s us vs q⟩
  | .loc _, _, ⟨a, e, h⟩ => ⟨a, s _ _ e, h⟩
theorem imAll_rs (s : ∀ (i : Nat) (a : Addr), rs[i]? = some a → rs'[i]? = some a) : ∀ (us : List U) (vs : List V), imAll G rs B us vs H → imAll G rs' B us vs H
  | [], _, h => h
  | u :: us, _, ⟨v, w, e, h1, h2⟩ => ⟨v, w, e, im_rs s u v h1, imAll_rs s us w h2⟩
end
theorem imAll_len : ∀ {us : List U} {vs : List V}, imAll G rs B us vs H → vs.length = us.length
  | [], _, h => by rw [show _ = _ from h]; rfl
  | d :: ds, _, ⟨v, w, e, _, h2⟩ => by rw [e, List.length_cons, List.length_cons, imAll_len h2]
theorem imAll_get : ∀ {us : List U} {vs : List V} {i : Nat} {u : U}, imAll G rs B us vs H → us[i]? = some u → ∃ v, vs[i]? = some v ∧ im G rs B u v H
  | [], _, _, _, _, e => by simp at e
  | d :: ds, _, 0, d', ⟨v, w, e, h1, h2⟩, e' => by
    simp at e'; subst e' e; exact ⟨v, rfl, h1⟩
  | d :: ds, _, i + 1, d', ⟨v, w, e, h1, h2⟩, e' => by
    subst e
    obtain ⟨x, e1, e2⟩ := imAll_get (i := i) h2 (by simpa using e')
    exact ⟨x, by simpa using e1, e2⟩
theorem imAll_getV : ∀ {us : List U} {vs : List V} {i : Nat} {v : V}, imAll G rs B us vs H → vs[i]? = some v → ∃ u, us[i]? = some u ∧ im G rs B u v H
  | [], _, _, _, h, e => by rw [show _ = _ from h] at e; simp at e
  | d :: ds, _, 0, v', ⟨v, w, e, h1, h2⟩, e' => by
    subst e; simp at e'; subst e'; exact ⟨d, rfl, h1⟩
  | d :: ds, _, i + 1, v', ⟨v, w, e, h1, h2⟩, e' => by
    subst e
    obtain ⟨x, e1, e2⟩ := imAll_getV (i := i) h2 (by simpa using e')
    exact ⟨x, by simpa using e1, e2⟩
theorem imAll_append : ∀ {us us' : List U} {vs ws : List V}, imAll G rs B us vs H → imAll G rs B us' ws H → imAll G rs B (us ++ us') (vs ++ ws) H
  | [], _, _, _, h, h' => by rw [show _ = _ from h]; exact h'
  | d :: ds, es, _, ws, ⟨v, w, e, h1, h2⟩, h' => by
    subst e; exact ⟨v, w ++ ws, rfl, h1, imAll_append h2 h'⟩
theorem imAll_snoc {us : List U} {vs : List V} {u : U} {v : V} (h : imAll G rs B us vs H) (h' : im G rs B u v H) : imAll G rs B (us ++ [u]) (vs ++ [v]) H := imAll_append h ⟨v, [], rfl, h', rfl⟩
theorem imAll_take : ∀ {us : List U} {vs : List V} (n : Nat), imAll G rs B us vs H → imAll G rs B (us.take n) (vs.take n) H
  | _, _, 0, _ => rfl
  | [], _, n + 1, h => by rw [show _ = _ from h]; rfl
  | d :: ds, _, n + 1, ⟨v, w, e, h1, h2⟩ => by subst e; exact ⟨v, _, rfl, h1, imAll_take n h2⟩
theorem imAll_drop : ∀ {us : List U} {vs : List V} (n : Nat), imAll G rs B us vs H → imAll G rs B (us.drop n) (vs.drop n) H
  | _, _, 0, h => h
  | [], _, n + 1, h => by rw [show _ = _ from h]; rfl
  | d :: ds, _, n + 1, ⟨v, w, e, h1, h2⟩ => by subst e; exact imAll_drop n h2
theorem imAll_rep {us : List U} {vs : List V} (h : imAll G rs B us vs H) : ∀ n : Nat, imAll G rs B (List.replicate n us).flatten (List.replicate n vs).flatten H
  | 0 => rfl
  | n + 1 => by
    rw [List.replicate_succ, List.replicate_succ, List.flatten_cons, List.flatten_cons]
    exact imAll_append h (imAll_rep h n)
theorem imAll_set : ∀ {us : List U} {vs : List V} {i : Nat} {u : U} {v : V}, imAll G rs B us vs H → im G rs B u v H → imAll G rs B (us.set i u) (vs.set i v) H
  | [], _, _, _, _, h, _ => by rw [show _ = _ from h]; rfl
  | d :: ds, _, 0, u, v, ⟨v', w, e, h1, h2⟩, h => by subst e; exact ⟨v, w, rfl, h, h2⟩
  | d :: ds, _, i + 1, u, v, ⟨v', w, e, h1, h2⟩, h => by subst e; exact ⟨v', _, rfl, h1, imAll_set h2 h⟩
theorem imAll_erase : ∀ {us : List U} {vs : List V} (i : Nat), imAll G rs B us vs H → imAll G rs B (us.eraseIdx i) (vs.eraseIdx i) H
  | [], _, _, h => by rw [show _ = _ from h]; rfl
  | d :: ds, _, 0, ⟨v, w, e, h1, h2⟩ => by subst e; exact h2
  | d :: ds, _, i + 1, ⟨v, w, e, h1, h2⟩ => by subst e; exact ⟨v, _, rfl, h1, imAll_erase i h2⟩
theorem imAll_rev {us : List U} {vs : List V} (h : imAll G rs B us vs H) : imAll G rs B us.reverse vs.reverse H := by
  induction us generalizing vs with
  | nil => rw [show vs = [] from h]; rfl
  | cons u us ih =>
    obtain ⟨v, r, e, h1, h2⟩ := h
    subst e
    rw [List.reverse_cons, List.reverse_cons]
    exact imAll_snoc (ih h2) h1
end
/-! ### plain data -/
mutual
def pd : U → Option PyData
  | .non => some .none
  | .bl b => some (.bool b)
  | .int i => some (.int i)
  | .str x => some (.str x)
  | .tup us => (pdAll us).map .tuple
  | .lst us => (pdAll us).map .list
  | .dct _ _ => none
  | .dcT _ _ => none
  | .obj _ _ _ => none
  | .top _ => none
  | .frl us => (pdAll us).map .list
  | .loc _ => none
def pdAll : List U → Option (List PyData)
  | [] => some []
  | u :: us => match pd u, pdAll us with
    | some d, some ds => some (d :: ds)
    | _, _ => none
end
section
variable {G : Cxt} {rs : List Addr} {B B' : Bn} {H H' : Hp}
mutual
theorem im_dp : ∀ (u : U) (v : V) (d : PyData), im G rs B u v H → pd u = some d → Dp G.K H v d
  | .non, _, _, h, e => by cases h; cases e; exact .non
  | .bl _, _, _, h, e => by cases h; cases e; exact .bl _
  | .int _, _, _, h, e => by cases h; cases e; exact .int _
  | .str _, _, _, h, e => by cases h; cases e; exact .str _
  | .tup us, _, d, ⟨a, vs, e, s, q⟩, e' => by
    subst e
    obtain ⟨ds, e1, rfl⟩ := Option.map_eq_some_iff.mp (show (pdAll us).map .tuple = some d from e')
    exact .tup (EL.sqT_of s) (imAll_dp us vs ds q e1)
  | .lst us, _, d, ⟨a, vs, e, _, s, q⟩, e' => by
    subst e
    obtain ⟨ds, e1, rfl⟩ := Option.map_eq_some_iff.mp (show (pdAll us).map .list = some d from e')
    exact .lst (.inl (.inl s)) (imAll_dp us vs ds q e1)
  | .dct _ _, _, _, _, e' => by cases e'
  | .dcT _ _, _, _, _, e' => by cases e'
  | .obj _ _ _, _, _, _, e' => by cases e'
  | .top _, _, _, _, e' => by cases e'
  | .frl us, _, d, ⟨a, vs, e, s, q⟩, e' => by
    subst e
    obtain ⟨ds, e1, rfl⟩ := Option.map_eq_some_iff.mp (show (pdAll us).map .list = some d from e')
    exact .lst s.sq (imAll_dp us vs ds q e1)
  | .loc _, _, _, _, e' => by cases e'
theorem imAll_dp : ∀ (us : List U) (vs : List V) (ds : List PyData), imAll G rs B us vs H → pdAll us = some ds → DpAll G.K H vs ds
  | [], _, _, h, e => by rw [show _ = _ from h]; cases e; exact .nil
  | u :: us, _, ds, ⟨v, w, e, h1, h2⟩, e' => by
    subst e
    rw [pdAll] at e'
    cases e1 : pd u with
    | none => rw [e1] at e'; cases e'
    | some d =>
      cases e2 : pdAll us with
      | none => rw [e1, e2] at e'; cases e'
      | some ds => rw [e1, e2] at e'; cases e'; exact .cons (im_dp u v d h1 e1) (imAll_dp us w ds h2 e2)
end
end
/-! ### what is owned -/
inductive Sh where
  | leaf | lst (s : Sh) | dct (s : Sh) | tup (f : Nat → Sh) | obj (f : Str → Sh)
def ownZ (P : Nat → U → V → Hp → List Addr → Prop) : Nat → List U → List V → Hp → List Addr → Prop
  | _, [], vs, _, A => vs = [] ∧ A = []
  | n, u :: us, vs, H, A => ∃ v r A1 A2, vs = v :: r ∧ A = A1 ++ A2 ∧ P n u v H A1 ∧ ownZ P (n + 1) us r H A2
def ownD (G : Cxt) (rs : List Addr) (B : Bn) : Sh → U → V → Hp → List Addr → Prop
  | .leaf, u, v, H, A => A = [] ∧ im G rs B u v H
  | .lst s, .lst us, v, H, A => ∃ a vs A', v = .ref a ∧ A = a :: A' ∧ H a = some (.lst vs) ∧ ownZ (fun _ => ownD G rs B s) 0 us vs H A'
  | .dct s, .dct ks us, v, H, A => ∃ a vs A', v = .ref a ∧ A = a :: A' ∧ H a = some (.dK (ks.zip vs)) ∧ ks.length = us.length ∧ ownZ (fun _ => ownD G rs B s) 0 us vs H A'
  | .dct s, .dcT ks us, v, H, A => ∃ a vs A', v = .ref a ∧ A = a :: A' ∧ H a = some (.dT (ks.zip vs)) ∧ ks.length = us.length ∧ ownZ (fun _ => ownD G rs B s) 0 us vs H A'
  | .tup f, .tup us, v, H, A => ∃ a vs, v = .ref a ∧ H a = some (.tup vs) ∧ ownZ (fun n => ownD G rs B (f n)) 0 us vs H A
  | .obj f, .obj c ns us, v, H, A => ∃ a dx vs A', v = .ref a ∧ A = a :: A' ∧ H a = some (.ins (G.at_ c) dx (ns.zip vs)) ∧ ns.length = us.length ∧ ownZ (fun n => ownD G rs B (f (ns.getD n ""))) 0 us vs H A'
  | _, _, _, _, _ => False
section
variable {G : Cxt} {rs rs' : List Addr} {B B' : Bn} {H H' : Hp}
theorem ownZ_mono {P P' : Nat → U → V → Hp → List Addr → Prop} : ∀ {us : List U} {n : Nat} {vs : List V} {A : List Addr}, (∀ n u v A1, (∀ a ∈ A1, a ∈ A) → P n u v H A1 → P' n u v H' A1) → ownZ P n us vs H A → ownZ P' n us vs H' A
  | [], _, _, _, _, h => h
  | u :: us, n, _, _, f, ⟨v, r, A1, A2, e1, e2, h1, h2⟩ => ⟨v, r, A1, A2, e1, e2, f n u v A1 (fun a m => by rw [e2]; exact List.mem_append_left _ m) h1,
      ownZ_mono (fun n u v A3 s p => f n u v A3 (fun a m => by rw [e2]; exact List.mem_append_right _ (s a m)) p) h2⟩
theorem ownZ_len {P : Nat → U → V → Hp → List Addr → Prop} : ∀ {us : List U} {n : Nat} {vs : List V} {A : List Addr}, ownZ P n us vs H A → vs.length = us.length
  | [], _, _, _, h => by rw [h.1]; rfl
  | u :: us, n, _, _, ⟨v, r, A1, A2, e1, e2, h1, h2⟩ => by rw [e1, List.length_cons, List.length_cons, ownZ_len h2]
theorem own_mono (hk : ∀ u v, im G rs B u v H → im G rs' B' u v H') (ht : ∀ a xs, H a = some (.tup xs) → H' a = some (.tup xs)) : ∀ (s : Sh) (u : U) (v : V) (A : List Addr), (∀ a ∈ A, H' a = H a) → ownD G rs B s u v H A → ownD G rs' B' s u v H' A
  | .leaf, u, v, A, _, h => ⟨h.1, hk u v h.2⟩
  | .lst s, .lst us, v, A, k, ⟨a, vs, A', e1, e2, h, q⟩ => ⟨a, vs, A', e1, e2, by rw [k a (by rw [e2]; exact List.mem_cons_self)]; exact h,
      ownZ_mono (fun n u v A1 m p => own_mono hk ht s u v A1 (fun a z => k a (by rw [e2]; exact List.mem_cons_of_mem _ (m a z))) p) q⟩
  | .dct s, .dct ks us, v, A, k, ⟨a, vs, A', e1, e2, h, l, q⟩ => ⟨a, vs, A', e1, e2, by rw [k a (by rw [e2]; exact List.mem_cons_self)]; exact h, l,
      ownZ_mono (fun n u v A1 m p => own_mono hk ht s u v A1 (fun a z => k a (by rw [e2]; exact List.mem_cons_of_mem _ (m a z))) p) q⟩
  | .dct s, .dcT ks us, v, A, k, ⟨a, vs, A', e1, e2, h, l, q⟩ => ⟨a, vs, A', e1, e2, by rw [k a (by rw [e2]; exact List.mem_cons_self)]; exact h, l,
      ownZ_mono (fun n u v A1 m p => own_mono hk ht s u v A1 (fun a z => k a (by rw [e2]; exact List.mem_cons_of_mem _ (m a z))) p) q⟩
  | .tup f, .tup us, v, A, k, ⟨a, vs, e1, h, q⟩ => ⟨a, vs, e1, ht _ _ h,
      ownZ_mono (fun n u v A1 m p => own_mono hk ht (f n) u v A1 (fun a z => k a (m a z)) p) q⟩
  | .obj f, .obj c ns us, v, A, k, ⟨a, dx, vs, A', e1, e2, h, l, q⟩ => ⟨a, dx, vs, A', e1, e2, by rw [k a (by rw [e2]; exact List.mem_cons_self)]; exact h, l,
      ownZ_mono (fun n u v A1 m p => own_mono hk ht (f (ns.getD n "")) u v A1 (fun a z => k a (by rw [e2]; exact List.mem_cons_of_mem _ (m a z))) p) q⟩
theorem ownZ_leaf {us : List U} {n : Nat} {vs : List V} {A : List Addr} {f : Nat → Sh} (hf : ∀ n, f n = .leaf) : ownZ (fun n => ownD G rs B (f n)) n us vs H A ↔ A = [] ∧ imAll G rs B us vs H := by
  induction us generalizing n vs A with
  | nil => exact ⟨fun h => ⟨h.2, h.1⟩, fun h => ⟨h.2, h.1⟩⟩
  | cons u us ih =>
    constructor
    · rintro ⟨v, r, A1, A2, e1, e2, h1, h2⟩
      rw [hf n] at h1
      obtain ⟨z, h1⟩ := h1
      obtain ⟨z2, h2⟩ := ih.mp h2
      exact ⟨by rw [e2, z, z2]; rfl, v, r, e1, h1, h2⟩
    · rintro ⟨e, v, r, e1, h1, h2⟩
      exact ⟨v, r, [], [], e1, e, by show ownD G rs B (f n) u v H []; rw [hf n]; exact ⟨rfl, h1⟩, ih.mpr ⟨rfl, h2⟩⟩
theorem own_lst {us : List U} {v : V} {A : List Addr} : ownD G rs B (.lst .leaf) (.lst us) v H A ↔ ∃ a vs, v = .ref a ∧ A = [a] ∧ H a = some (.lst vs) ∧ imAll G rs B us vs H := by
  constructor
  · rintro ⟨a, vs, A', e1, e2, h, q⟩
    obtain ⟨z, q⟩ := (ownZ_leaf (f := fun _ => .leaf) fun _ => rfl).mp q
    exact ⟨a, vs, e1, by rw [e2, z], h, q⟩
  · rintro ⟨a, vs, e1, e2, h, q⟩
    exact ⟨a, vs, [], e1, e2, h, (ownZ_leaf (f := fun _ => .leaf) fun _ => rfl).mpr ⟨rfl, q⟩⟩
theorem own_dct {ks : List Key} {us : List U} {v : V} {A : List Addr} : ownD G rs B (.dct .leaf) (.dct ks us) v H A ↔ ∃ a vs, v = .ref a ∧ A = [a] ∧ H a = some (.dK (ks.zip vs)) ∧ ks.length = us.length ∧ imAll G rs B us vs H := by
  constructor
  · rintro ⟨a, vs, A', e1, e2, h, l, q⟩
    obtain ⟨z, q⟩ := (ownZ_leaf (f := fun _ => .leaf) fun _ => rfl).mp q
    exact ⟨a, vs, e1, by rw [e2, z], h, l, q⟩
  · rintro ⟨a, vs, e1, e2, h, l, q⟩
    exact ⟨a, vs, [], e1, e2, h, l, (ownZ_leaf (f := fun _ => .leaf) fun _ => rfl).mpr ⟨rfl, q⟩⟩
theorem own_dcT {ks : List (List Key)} {us : List U} {v : V} {A : List Addr} : ownD G rs B (.dct .leaf) (.dcT ks us) v H A ↔ ∃ a vs, v = .ref a ∧ A = [a] ∧ H a = some (.dT (ks.zip vs)) ∧ ks.length = us.length ∧ imAll G rs B us vs H := by
  constructor
  · rintro ⟨a, vs, A', e1, e2, h, l, q⟩
    obtain ⟨z, q⟩ := (ownZ_leaf (f := fun _ => .leaf) fun _ => rfl).mp q
    exact ⟨a, vs, e1, by rw [e2, z], h, l, q⟩
  · rintro ⟨a, vs, e1, e2, h, l, q⟩
    exact ⟨a, vs, [], e1, e2, h, l, (ownZ_leaf (f := fun _ => .leaf) fun _ => rfl).mpr ⟨rfl, q⟩⟩
end
/-! ### what is owned wholly (in the store) -/
section
variable (G : Cxt) (rs : List Addr) (B : Bn)
mutual
def ownF : U → V → Hp → List Addr → Prop
  | .lst us, v, H, A => ∃ a vs A', v = .ref a ∧ A = a :: A' ∧ H a = some (.lst vs) ∧ ownFs us vs H A'
  | .dct ks us, v, H, A => ∃ a vs A', v = .ref a ∧ A = a :: A' ∧ H a = some (.dK (ks.zip vs)) ∧ ks.length = us.length ∧ ownFs us vs H A'
  | .dcT ks us, v, H, A => ∃ a vs A', v = .ref a ∧ A = a :: A' ∧ H a = some (.dT (ks.zip vs)) ∧ ks.length = us.length ∧ ownFs us vs H A'
  | .non, v, H, A => A = [] ∧ im G rs B .non v H
  | .bl b, v, H, A => A = [] ∧ im G rs B (.bl b) v H
  | .int i, v, H, A => A = [] ∧ im G rs B (.int i) v H
  | .str x, v, H, A => A = [] ∧ im G rs B (.str x) v H
  | .tup us, v, H, A => A = [] ∧ im G rs B (.tup us) v H
  | .obj c ns us, v, H, A => A = [] ∧ im G rs B (.obj c ns us) v H
  | .top x, v, H, A => A = [] ∧ im G rs B (.top x) v H
  | .frl us, v, H, A => A = [] ∧ im G rs B (.frl us) v H
  | .loc i, v, H, A => A = [] ∧ im G rs B (.loc i) v H
def ownFs : List U → List V → Hp → List Addr → Prop
  | [], vs, _, A => vs = [] ∧ A = []
  | u :: us, vs, H, A => ∃ v r A1 A2, vs = v :: r ∧ A = A1 ++ A2 ∧ ownF u v H A1 ∧ ownFs us r H A2
end
def ownC : U → V → Hp → List Addr → Prop
  | .obj c ns us, v, H, A => (∃ a dx vs A', v = .ref a ∧ A = a :: A' ∧ H a = some (.ins (G.at_ c) dx (ns.zip vs)) ∧ ns.length = us.length ∧ ownFs G rs B us vs H A')
  | u, v, H, A => ownF G rs B u v H A
end
section
variable {G : Cxt} {rs rs' : List Addr} {B B' : Bn} {H H' : Hp}
mutual
theorem ownF_mono (hk : ∀ u v, im G rs B u v H → im G rs' B' u v H') : ∀ (u : U) (v : V) (A : List Addr), (∀ a ∈ A, H' a = H a) → ownF G rs B u v H A → ownF G rs' B' u v H' A
  | .lst us, v, A, k, ⟨a, vs, A', e1, e2, h, q⟩ => ⟨a, vs, A', e1, e2, by rw [k a (by rw [e2]; exact List.mem_cons_self)]; exact h, ownFs_mono hk us vs A' (fun b m => k b (by rw [e2]; exact List.mem_cons_of_mem _ m)) q⟩
  | .dct ks us, v, A, k, ⟨a, vs, A', e1, e2, h, l, q⟩ => ⟨a, vs, A', e1, e2, by rw [k a (by rw [e2]; exact List.mem_cons_self)]; exact h, l, ownFs_mono hk us vs A' (fun b m => k b (by rw [e2]; exact List.mem_cons_of_mem _ m)) q⟩
  | .dcT ks us, v, A, k, ⟨a, vs, A', e1, e2, h, l, q⟩ => ⟨a, vs, A', e1, e2, by rw [k a (by rw [e2]; exact List.mem_cons_self)]; exact h, l, ownFs_mono hk us vs A' (fun b m => k b (by rw [e2]; exact List.mem_cons_of_mem _ m)) q⟩
  | .non, v, A, _, h => ⟨h.1, hk _ _ h.2⟩
  | .bl _, v, A, _, h => ⟨h.1, hk _ _ h.2⟩
  | .int _, v, A, _, h => ⟨h.1, hk _ _ h.2⟩
  | .str _, v, A, _, h => ⟨h.1, hk _ _ h.2⟩
  | .tup _, v, A, _, h => ⟨h.1, hk _ _ h.2⟩
  | .obj _ _ _, v, A, _, h => ⟨h.1, hk _ _ h.2⟩
  | .top _, v, A, _, h => ⟨h.1, hk _ _ h.2⟩
  | .frl _, v, A, _, h => ⟨h.1, hk _ _ h.2⟩
  | .loc _, v, A, _, h => ⟨h.1, hk _ _ h.2⟩
theorem ownFs_mono (hk : ∀ u v, im G rs B u v H → im G rs' B' u v H') : ∀ (us : List U) (vs : List V) (A : List Addr), (∀ a ∈ A, H' a = H a) → ownFs G rs B us vs H A → ownFs G rs' B' us vs H' A
  | [], _, _, _, h => h
  | u :: us, _, A, k, ⟨v, r, A1, A2, e1, e2, h1, h2⟩ => ⟨v, r, A1, A2, e1, e2, ownF_mono hk u v A1 (fun a m => k a (by rw [e2]; exact List.mem_append_left _ m)) h1, ownFs_mono hk us r A2 (fun a m => k a (by rw [e2]; exact List.mem_append_right _ m)) h2⟩
end
theorem ownC_mono (hk : ∀ u v, im G rs B u v H → im G rs' B' u v H') : ∀ (u : U) (v : V) (A : List Addr), (∀ a ∈ A, H' a = H a) → ownC G rs B u v H A → ownC G rs' B' u v H' A
  | .obj c ns us, v, A, k, ⟨a, dx, vs, A', e1, e2, h, l, q⟩ => ⟨a, dx, vs, A', e1, e2, by rw [k a (by rw [e2]; exact List.mem_cons_self)]; exact h, l, ownFs_mono hk us vs A' (fun b m => k b (by rw [e2]; exact List.mem_cons_of_mem _ m)) q⟩
  | .lst us, v, A, k, h => ownF_mono hk (.lst us) v A k h
  | .dct ks us, v, A, k, h => ownF_mono hk (.dct ks us) v A k h
  | .dcT ks us, v, A, k, h => ownF_mono hk (.dcT ks us) v A k h
  | .non, v, A, k, h => ownF_mono hk .non v A k h
  | .bl b, v, A, k, h => ownF_mono hk (.bl b) v A k h
  | .int i, v, A, k, h => ownF_mono hk (.int i) v A k h
  | .str x, v, A, k, h => ownF_mono hk (.str x) v A k h
  | .tup us, v, A, k, h => ownF_mono hk (.tup us) v A k h
  | .top x, v, A, k, h => ownF_mono hk (.top x) v A k h
  | .frl us, v, A, k, h => ownF_mono hk (.frl us) v A k h
  | .loc i, v, A, k, h => ownF_mono hk (.loc i) v A k h
theorem ownFs_len : ∀ {us : List U} {vs : List V} {A : List Addr}, ownFs G rs B us vs H A → vs.length = us.length
  | [], _, _, h => by rw [h.1]; rfl
  | u :: us, _, _, ⟨v, r, A1, A2, e1, e2, h1, h2⟩ => by rw [e1, List.length_cons, List.length_cons, ownFs_len h2]
theorem ownFs_split : ∀ {us : List U} {j : Nat} {vs : List V} {A : List Addr} {u : U}, ownFs G rs B us vs H A → us[j]? = some u → ∃ v A1 A' A2, vs[j]? = some v ∧ A = A1 ++ (A' ++ A2) ∧ ownF G rs B u v H A' ∧
    ∀ (rs2 : List Addr) (B2 : Bn) H2 u2 A'2, (∀ u v, im G rs B u v H → im G rs2 B2 u v H2) → (∀ a, a ∈ A1 ∨ a ∈ A2 → H2 a = H a) → ownF G rs2 B2 u2 v H2 A'2 → ownFs G rs2 B2 (us.set j u2) vs H2 (A1 ++ (A'2 ++ A2))
  | [], _, _, _, _, _, e => by simp at e
  | x :: us, 0, _, _, u, ⟨v, r, A1, A2, e1, e2, h1, h2⟩, e => by
    simp at e; subst e e1 e2
    exact ⟨v, [], A1, A2, rfl, rfl, h1, fun rs2 B2 H2 u2 A'2 t k p => ⟨v, r, A'2, A2, rfl, rfl, p, ownFs_mono t us r A2 (fun a m => k a (.inr m)) h2⟩⟩
  | x :: us, j + 1, _, _, u, ⟨v, r, A1, A2, e1, e2, h1, h2⟩, e => by
    obtain ⟨v', B1, B', B2, f1, f2, f3, f4⟩ := ownFs_split (j := j) h2 (by simpa using e)
    subst e1 e2 f2
    refine ⟨v', A1 ++ B1, B', B2, by simpa using f1, by simp, f3, fun rs2 B2' H2 u2 A'2 t k p => ?_⟩
    exact ⟨v, r, A1, B1 ++ (A'2 ++ B2), rfl, by simp, ownF_mono t x v A1 (fun a m => k a (.inl (List.mem_append_left _ m))) h1, f4 rs2 B2' H2 u2 A'2 t (fun a z => k a (z.imp (fun z => List.mem_append_right _ z) id)) p⟩
end
end UX

set_option Elab.async false
set_option linter.all false
set_option maxRecDepth 100000
set_option maxHeartbeats 4000000
set_option autoImplicit false
namespace UX
open PySem PySem.Spec PyProof.Rows L2
open EL (Ex RB BOk Bn TK)
/-! ### what a piece of code comes to -/
abbrev Sto := List U
inductive Res (α : Type) where
  | ok (a : α) | er (e : U)
def M (α : Type) := Sto → Option (Res α × Sto)
namespace M
def ret {α : Type} (a : α) : M α := fun st => some (.ok a, st)
def fail {α : Type} : M α := fun _ => none
def raise {α : Type} (e : U) : M α := fun st => some (.er e, st)
def bind {α β : Type} (w : M α) (f : α → M β) : M β := fun st => match w st with
  | some (.ok a, st') => f a st'
  | some (.er e, st') => some (.er e, st')
  | none => none
def o {α : Type} : Option α → M α
  | some a => ret a
  | none => fail
section
variable {α β γ : Type}
@[simp] theorem bind_ret (a : α) (f : α → M β) : bind (ret a) f = f a := rfl
@[simp] theorem bind_fail (f : α → M β) : bind fail f = fail := rfl
@[simp] theorem bind_bind (w : M α) (f : α → M β) (g : β → M γ) : bind (bind w f) g = bind w fun a => bind (f a) g := by
  funext st
  unfold bind
  cases w st with
  | none => rfl
  | some p =>
    obtain ⟨r, st'⟩ := p
    cases r <;> rfl
@[simp] theorem bind_ret' (w : M α) : bind w ret = w := by
  funext st
  unfold bind ret
  cases w st with
  | none => rfl
  | some p =>
    obtain ⟨r, st'⟩ := p
    cases r <;> rfl
@[simp] theorem o_some (a : α) : o (some a) = ret a := rfl
@[simp] theorem o_none : o (none : Option α) = fail := rfl
theorem bind_ite (c : Prop) [Decidable c] (a b : M α) (f : α → M β) : bind (if c then a else b) f = if c then bind a f else bind b f := by split <;> rfl
theorem bind_inv {w : M α} {f : α → M β} {st st' : Sto} {b : β} (h : bind w f st = some (.ok b, st')) : ∃ a st1, w st = some (.ok a, st1) ∧ f a st1 = some (.ok b, st') := by
  unfold bind at h
  cases e : w st with
  | none => rw [e] at h; cases h
  | some p =>
    obtain ⟨r, st1⟩ := p
    rw [e] at h
    cases r with
    | ok a => exact ⟨a, st1, rfl, h⟩
    | er _ => cases h
theorem ret_inv {a b : α} {st st' : Sto} (h : ret a st = some (.ok b, st')) : b = a ∧ st' = st := by
  cases h; exact ⟨rfl, rfl⟩
theorem o_inv {x : Option α} {b : α} {st st' : Sto} (h : o x st = some (.ok b, st')) : x = some b ∧ st' = st := by
  cases x with
  | none => cases h
  | some a => cases h; exact ⟨rfl, rfl⟩
end
end M
/-! ### where what is stored stands -/
abbrev SA := List (Addr × List Addr)
def fl (as : SA) : List Addr := (as.map (·.2)).flatten
def rts (as : SA) : List Addr := as.map (·.1)
structure Go (as as' : SA) (H H' : Hp) : Prop where
  rb : RB (· ∈ fl as) H H'
  pre : ∀ (i : Nat) (a : Addr), (rts as)[i]? = some a → (rts as')[i]? = some a
  new : ∀ a ∈ fl as', a ∈ fl as ∨ H a = none
theorem rb_alive {B : Bn} {H H' : Hp} (r : RB B H H') {a : Addr} (h : H a ≠ none) : H' a ≠ none := by
  rcases Classical.em (B a) with b | b
  · exact r.ban a b h
  · cases e : H a with
    | none => exact absurd e h
    | some o => rw [r.keep a o b e]; exact fun z => nomatch z
theorem Go.refl (as : SA) (H : Hp) : Go as as H H := ⟨RB.refl H, fun _ _ h => h, fun _ h => .inl h⟩
theorem Go.trans {as as1 as2 : SA} {H H1 H2 : Hp} (a : Go as as1 H H1) (b : Go as1 as2 H1 H2) : Go as as2 H H2 := by
  refine ⟨⟨fun x o n h => ?_, fun x xs h => b.rb.tup _ _ (a.rb.tup _ _ h), fun x o u h => b.rb.frz _ _ _ (a.rb.frz _ _ _ h), fun x _ h => rb_alive b.rb (rb_alive a.rb h)⟩, fun i x h => b.pre i x (a.pre i x h), fun x h => ?_⟩
  · refine b.rb.keep x o (fun m => ?_) (a.rb.keep x o n h)
    rcases a.new x m with z | z
    · exact n z
    · rw [h] at z; cases z
  · rcases b.new x h with z | z
    · exact a.new x z
    · rcases Classical.em (H x = none) with q | q
      · exact .inr q
      · exact absurd z (rb_alive a.rb q)
theorem Go.of_ex {as : SA} {H H' : Hp} (e : Ex H H') : Go as as H H' := ⟨RB.of_ex e, fun _ _ h => h, fun _ h => .inl h⟩
theorem Go.alive {as as' : SA} {H H' : Hp} (g : Go as as' H H') {a : Addr} (h : H a ≠ none) : H' a ≠ none := rb_alive g.rb h
theorem Go.fresh {as as' : SA} {H H' : Hp} (g : Go as as' H H') {a : Addr} (h : H' a = none) : H a = none := by
  rcases Classical.em (H a = none) with q | q
  · exact q
  · exact absurd h (g.alive q)
/-! ### frames -/
structure Fr where
  G : Cxt
  B : Bn
  H0 : Hp
  as0 : SA
abbrev Os := List (Nat × List Addr)
def flo (os : Os) : List Addr := (os.map (·.2)).flatten
def ban (F : Fr) (os : Os) (as : SA) : Bn := fun a => F.B a ∨ a ∈ flo os ∨ a ∈ fl as
inductive SV where
  | im (u : U)
  | own (s : Sh) (u : U)
  | raw (v : V)
abbrev Dl := List (Option SV)
def SVok (F : Fr) (os : Os) (as : SA) (i : Nat) : SV → V → Hp → Prop
  | .im u, v, H => im F.G (rts as) (ban F os as) u v H
  | .own s u, v, H => ∃ A, (i, A) ∈ os ∧ ownD F.G (rts as) (ban F os as) s u v H A
  | .raw x, v, _ => v = x
def StOk (G : Cxt) (B : Bn) (rs : List Addr) : SA → Sto → Hp → Prop
  | [], [], _ => True
  | p :: as, u :: st, H => ownC G rs B u (.ref p.1) H p.2 ∧ StOk G B rs as st H
  | _, _, _ => False
structure SDo (F : Fr) (os : Os) (as : SA) (st : Sto) (γ : List (U × V)) (H : Hp) (σ : L2.St) (δ : Dl) : Prop where
  gh : ∀ p ∈ γ, im F.G (rts as) (ban F os as) p.1 p.2 H
  rel : Go F.as0 as F.H0 H
  ok : BOk (ban F os as) H
  nd : (flo os ++ fl as).Nodup
  ix : (os.map (·.1)).Nodup
  new : ∀ a ∈ flo os, F.H0 a = none
  nb : ∀ a, a ∈ flo os ∨ a ∈ fl as → ¬ F.B a
  sto : StOk F.G (ban F os as) (rts as) as st H
  len : σ.length = δ.length
  at_ : ∀ i s, δ[i]? = some (some s) → ∃ v, σ[i]? = some (some v) ∧ SVok F os as i s v H
section
variable {F : Fr} {os : Os} {as as' : SA} {st : Sto} {γ : List (U × V)} {H H' : Hp} {σ : L2.St} {δ : Dl} {v : V} {u : U} {i : Nat}
theorem mem_flo {i : Nat} {A : List Addr} (m : (i, A) ∈ os) {a : Addr} (h : a ∈ A) : a ∈ flo os := List.mem_flatten.mpr ⟨A, List.mem_map_of_mem (f := (·.2)) m, h⟩
theorem mem_fl {p : Addr × List Addr} (m : p ∈ as) {a : Addr} (h : a ∈ p.2) : a ∈ fl as := List.mem_flatten.mpr ⟨p.2, List.mem_map_of_mem (f := (·.2)) m, h⟩
theorem im_go (g : Go as as' H H') {u : U} {v : V} (h : im F.G (rts as) (ban F os as) u v H) : im F.G (rts as') (ban F os as') u v H' := by
  have h1 : im F.G (rts as) (UX.ban F os as') u v H := im_sub (fun a n b => by
    rcases b with b | b | b
    · exact .inl b
    · exact .inr (.inl b)
    · rcases g.new a b with z | z
      · exact .inr (.inr z)
      · exact absurd z n) _ _ h
  have h2 := im_rs g.pre _ _ h1
  have h3 : im F.G (rts as') (fun a => UX.ban F os as' a ∨ a ∈ fl as) u v H := im_sub (B := UX.ban F os as) (fun a n b => by
    rcases b with (b | b | b) | b
    · exact .inl b
    · exact .inr (.inl b)
    · rcases g.new a b with z | z
      · exact .inr (.inr z)
      · exact absurd z n
    · exact .inr (.inr b)) _ _ (im_rs g.pre _ _ h)
  have h4 := im_st (g.rb.sub fun a m => Or.inr m) _ _ h3
  exact im_sub (fun a _ b => .inl b) _ _ h4
theorem imAll_go (g : Go as as' H H') : ∀ {us : List U} {vs : List V}, imAll F.G (rts as) (ban F os as) us vs H → imAll F.G (rts as') (ban F os as') us vs H'
  | [], _, h => h
  | u :: us, _, ⟨v, w, e, h1, h2⟩ => ⟨v, w, e, im_go g h1, imAll_go g h2⟩
theorem sqT_go (g : Go as as' H H') {a : Addr} {xs : List V} (h : H a = some (.tup xs)) : H' a = some (.tup xs) := g.rb.tup _ _ h
theorem own_go (g : Go as as' H H') {s : Sh} {u : U} {v : V} {A : List Addr} (h : ownD F.G (rts as) (ban F os as) s u v H A) (k : ∀ a ∈ A, a ∉ fl as) (al : ∀ a ∈ A, H a ≠ none) : ownD F.G (rts as') (ban F os as') s u v H' A :=
  own_mono (fun _ _ h => im_go g h) (fun _ _ h => sqT_go g h) s u v A (fun a m => by
    cases e : H a with
    | none => exact absurd e (al a m)
    | some o => exact g.rb.keep a o (k a m) e) h
theorem SVok.go (g : Go as as' H H') (nd : (flo os ++ fl as).Nodup) (ok : BOk (ban F os as) H) : ∀ {s : SV}, SVok F os as i s v H → SVok F os as' i s v H'
  | .im u, h => im_go g h
  | .own s u, ⟨A, m, h⟩ => ⟨A, m, own_go g h (fun a z => fun q => (List.nodup_append.mp nd).2.2 a (mem_flo m z) a q rfl) fun a z => ok a (.inr (.inl (mem_flo m z)))⟩
  | .raw x, h => h
/-- the state goes on: only the store may change -/
theorem SDo.go {st' : Sto} (s : SDo F os as st γ H σ δ) (g : Go as as' H H') (nd' : (fl as').Nodup) (sto' : StOk F.G (ban F os as') (rts as') as' st' H') (al : ∀ a ∈ fl as', H' a ≠ none) : SDo F os as' st' γ H' σ δ := by
  have dis : ∀ a ∈ flo os, a ∉ fl as' := fun a m q => by
    rcases g.new a q with z | z
    · exact (List.nodup_append.mp s.nd).2.2 a m a z rfl
    · exact s.ok a (.inr (.inl m)) z
  refine ⟨fun p m => im_go g (s.gh p m), s.rel.trans g, fun a b => ?_, List.nodup_append.mpr ⟨(List.nodup_append.mp s.nd).1, nd', fun a m b q e => dis a m (e ▸ q)⟩, s.ix, s.new, fun a z => ?_, sto', s.len, fun i x e => ?_⟩
  · rcases b with b | b | b
    · exact g.alive (s.ok a (.inl b))
    · exact g.alive (s.ok a (.inr (.inl b)))
    · exact al a b
  · rcases z with z | z
    · exact s.nb a (.inl z)
    · rcases g.new a z with q | q
      · exact s.nb a (.inr q)
      · exact fun b => s.ok a (.inl b) q
  · obtain ⟨v, h1, h2⟩ := s.at_ i x e
    exact ⟨v, h1, h2.go g s.nd s.ok⟩
theorem StOk.mono {G : Cxt} {B B' : Bn} {rs rs' : List Addr} (hk : ∀ u v, im G rs B u v H → im G rs' B' u v H') (ht : ∀ a xs, H a = some (.tup xs) → H' a = some (.tup xs)) : ∀ {as : SA} {st : Sto}, (∀ a ∈ fl as, H' a = H a) → StOk G B rs as st H → StOk G B' rs' as st H'
  | [], [], _, _ => trivial
  | p :: as, s :: st, k, ⟨h1, h2⟩ => ⟨ownC_mono hk _ _ _ (fun a m => k a (mem_fl (as := p :: as) List.mem_cons_self m)) h1, StOk.mono hk ht (fun a m => k a (List.mem_append_right _ m)) h2⟩
theorem StOk.len {G : Cxt} {B : Bn} {rs : List Addr} : ∀ {as : SA} {st : Sto}, StOk G B rs as st H → as.length = st.length
  | [], [], _ => rfl
  | _ :: _, _ :: _, h => by rw [List.length_cons, List.length_cons, StOk.len h.2]
theorem SDo.ex (s : SDo F os as st γ H σ δ) (e : Ex H H') : SDo F os as st γ H' σ δ :=
  s.go (Go.of_ex e) (List.nodup_append.mp s.nd).2.1 (StOk.mono (fun _ _ h => im_st (RB.of_ex e) _ _ h) (fun _ _ h => e _ _ h) (fun a m => by
    cases q : H a with
    | none => exact absurd q (s.ok a (.inr (.inr m)))
    | some o => exact e a o q) s.sto) fun a m => (Go.of_ex (as := as) e).alive (s.ok a (.inr (.inr m)))
theorem SDo.notban {p : Addr} (s : SDo F os as st γ H σ δ) (h : H p = none) : ¬ ban F os as p := fun b => s.ok p b h
theorem SDo.get (s : SDo F os as st γ H σ δ) {x : SV} (e : δ[i]? = some (some x)) : ∃ v, σ[i]? = some (some v) ∧ SVok F os as i x v H := s.at_ i x e
theorem getElem?_lt {α : Type} {l : List α} {x : α} (e : l[i]? = some x) : i < l.length := by
  rcases Nat.lt_or_ge i l.length with z | z
  · exact z
  · rw [List.getElem?_eq_none z] at e; cases e
theorem SDo.set (s : SDo F os as st γ H σ δ) {x : SV} (h : SVok F os as i x v H) : SDo F os as st γ H (σ.set i (some v)) (δ.set i (some x)) := by
  refine ⟨s.gh, s.rel, s.ok, s.nd, s.ix, s.new, s.nb, s.sto, by rw [List.length_set, List.length_set, s.len], fun j q e => ?_⟩
  by_cases hj : i = j
  · subst hj
    have hl : i < δ.length := by have := getElem?_lt e; rwa [List.length_set] at this
    rw [List.getElem?_set_self hl] at e
    cases e
    exact ⟨v, List.getElem?_set_self (by rw [s.len]; exact hl), h⟩
  · rw [List.getElem?_set_ne hj] at e
    obtain ⟨w, h1, h2⟩ := s.at_ j q e
    exact ⟨w, by rw [List.getElem?_set_ne hj]; exact h1, h2⟩
theorem SDo.unset (s : SDo F os as st γ H σ δ) {o : Option V} : SDo F os as st γ H (σ.set i o) (δ.set i none) := by
  refine ⟨s.gh, s.rel, s.ok, s.nd, s.ix, s.new, s.nb, s.sto, by rw [List.length_set, List.length_set, s.len], fun j q e => ?_⟩
  by_cases hj : i = j
  · subst hj
    have hl : i < δ.length := by have := getElem?_lt e; rwa [List.length_set] at this
    rw [List.getElem?_set_self hl] at e
    cases e
  · rw [List.getElem?_set_ne hj] at e
    obtain ⟨w, h1, h2⟩ := s.at_ j q e
    exact ⟨w, by rw [List.getElem?_set_ne hj]; exact h1, h2⟩
/-- the slots known by less -/
def Weak : Dl → Dl → Prop
  | [], [] => True
  | _ :: a, none :: b => Weak a b
  | x :: a, y :: b => x = y ∧ Weak a b
  | _, _ => False
theorem Weak.len : ∀ {a b : Dl}, Weak a b → a.length = b.length
  | [], [], _ => rfl
  | _ :: a, none :: b, h => by rw [List.length_cons, List.length_cons, Weak.len (a := a) (b := b) h]
  | _ :: a, some _ :: b, h => by rw [List.length_cons, List.length_cons, Weak.len (a := a) (b := b) h.2]
  | [], _ :: _, h => h.elim
  | _ :: _, [], h => by cases h
theorem Weak.get : ∀ {a b : Dl} {i : Nat} {p : SV}, Weak a b → b[i]? = some (some p) → a[i]? = some (some p)
  | [], [], _, _, _, e => by simp at e
  | x :: a, none :: b, 0, p, _, e => by simp at e
  | x :: a, none :: b, i + 1, p, h, e => by
    have := Weak.get (a := a) (b := b) (i := i) (p := p) h (by simpa using e)
    simpa using this
  | x :: a, some y :: b, 0, p, h, e => by
    have e1 : y = p := by simpa using e
    rw [show x = some y from h.1, e1]; rfl
  | x :: a, some y :: b, i + 1, p, h, e => by
    have := Weak.get (a := a) (b := b) (i := i) (p := p) h.2 (by simpa using e)
    simpa using this
  | [], _ :: _, _, _, h, _ => h.elim
  | _ :: _, [], _, _, h, _ => by cases h
theorem SDo.weak {δ' : Dl} (s : SDo F os as st γ H σ δ) (w : Weak δ δ') : SDo F os as st γ H σ δ' := ⟨s.gh, s.rel, s.ok, s.nd, s.ix, s.new, s.nb, s.sto, s.len.trans w.len, fun i p e => s.at_ i p (w.get e)⟩
/-- what can be read: the thing itself may be one's own -/
def rd (F : Fr) (os : Os) (as : SA) : U → V → Hp → Prop
  | .lst us, v, H => ∃ a vs, v = .ref a ∧ ¬ ban F [] as a ∧ H a = some (.lst vs) ∧ imAll F.G (rts as) (ban F os as) us vs H
  | .dct ks us, v, H => ∃ a vs, v = .ref a ∧ ¬ ban F [] as a ∧ Rd H a (.dK (ks.zip vs)) ∧ ks.length = us.length ∧ imAll F.G (rts as) (ban F os as) us vs H
  | .dcT ks us, v, H => ∃ a vs, v = .ref a ∧ ¬ ban F [] as a ∧ Rd H a (.dT (ks.zip vs)) ∧ ks.length = us.length ∧ imAll F.G (rts as) (ban F os as) us vs H
  | .obj c ns us, v, H => ∃ a dx vs, v = .ref a ∧ ¬ ban F [] as a ∧ H a = some (.ins (F.G.at_ c) dx (ns.zip vs)) ∧ ns.length = us.length ∧ imAll F.G (rts as) (ban F os as) us vs H
  | u, v, H => im F.G (rts as) (ban F os as) u v H
theorem ban_nil {a : Addr} (n : ¬ ban F os as a) : ¬ ban F [] as a := fun b => n (b.elim .inl fun b => b.elim (fun z => nomatch z) fun z => .inr (.inr z))
theorem rd_of_im : ∀ {u : U}, im F.G (rts as) (ban F os as) u v H → rd F os as u v H
  | .non, h | .bl _, h | .int _, h | .str _, h | .tup _, h | .top _, h | .frl _, h | .loc _, h => h
  | .lst us, ⟨a, vs, e, n, h⟩ => ⟨a, vs, e, ban_nil n, h⟩
  | .dct ks us, ⟨a, vs, e, n, h⟩ => ⟨a, vs, e, ban_nil n, h⟩
  | .dcT ks us, ⟨a, vs, e, n, h⟩ => ⟨a, vs, e, ban_nil n, h⟩
  | .obj c ns us, ⟨a, dx, vs, e, n, h⟩ => ⟨a, dx, vs, e, ban_nil n, h⟩
abbrev noB : Bn := fun _ => False
theorem sub0 {B : Bn} {G : Cxt} {rs : List Addr} {u : U} (h : im G rs B u v H) : im G rs noB u v H := im_sub (B := B) (fun _ _ (z : False) => False.elim z) u v h
theorem imAll_none {G : Cxt} {rs : List Addr} {B : Bn} {us : List U} {vs : List V} (h : imAll G rs B us vs H) : imAll G rs noB us vs H := imAll_sub (B := B) (fun _ _ (z : False) => False.elim z) us vs h
theorem rd_im0 : ∀ {u : U}, rd F os as u v H → im F.G (rts as) noB u v H
  | .non, h | .bl _, h | .int _, h | .str _, h | .tup _, h | .top _, h | .frl _, h | .loc _, h => sub0 (B := ban F os as) h
  | .lst us, ⟨a, vs, e, _, h, q⟩ => ⟨a, vs, e, fun z => z, h, imAll_none q⟩
  | .dct ks us, ⟨a, vs, e, _, h, l, q⟩ => ⟨a, vs, e, fun z => z, h, l, imAll_none q⟩
  | .dcT ks us, ⟨a, vs, e, _, h, l, q⟩ => ⟨a, vs, e, fun z => z, h, l, imAll_none q⟩
  | .obj c ns us, ⟨a, dx, vs, e, _, h, l, q⟩ => ⟨a, dx, vs, e, fun z => z, h, l, imAll_none q⟩
theorem rd_dp {d : PyData} (h : rd F os as u v H) (e : pd u = some d) : Dp F.G.K H v d := im_dp _ _ _ (rd_im0 h) e
theorem Go.off (g : Go as as' H H') {a : Addr} (n : ¬ ban F [] as a) (h : H a ≠ none) : ¬ ban F [] as' a := fun m => by
  rcases m with z | z | z
  · exact n (.inl z)
  · cases z
  · rcases g.new a z with z | z
    · exact n (.inr (.inr z))
    · exact h z
theorem nfl {a : Addr} (n : ¬ ban F [] as a) : a ∉ fl as := fun m => n (.inr (.inr m))
theorem rd_go (g : Go as as' H H') : ∀ {u : U}, rd F os as u v H → rd F os as' u v H'
  | .non, h | .bl _, h | .int _, h | .str _, h | .tup _, h | .top _, h | .frl _, h | .loc _, h => im_go (F := F) (os := os) g h
  | .lst us, ⟨a, vs, e, n, h, q⟩ => ⟨a, vs, e, g.off n (by rw [h]; exact fun z => nomatch z), g.rb.keep _ _ (nfl n) h, imAll_go g q⟩
  | .dct ks us, ⟨a, vs, e, n, h, l, q⟩ => ⟨a, vs, e, g.off n (rd_ne h), (kd_of g.rb).dK _ _ (nfl n) h, l, imAll_go g q⟩
  | .dcT ks us, ⟨a, vs, e, n, h, l, q⟩ => ⟨a, vs, e, g.off n (rd_ne h), (kd_of g.rb).dT _ _ (nfl n) h, l, imAll_go g q⟩
  | .obj c ns us, ⟨a, dx, vs, e, n, h, l, q⟩ => ⟨a, dx, vs, e, g.off n (by rw [h]; exact fun z => nomatch z), g.rb.keep _ _ (nfl n) h, l, imAll_go g q⟩
def rdAll (F : Fr) (os : Os) (as : SA) : List U → List V → Hp → Prop
  | [], vs, _ => vs = []
  | u :: us, vs, H => ∃ v r, vs = v :: r ∧ rd F os as u v H ∧ rdAll F os as us r H
theorem rdAll_im0 : ∀ {us : List U} {vs : List V}, rdAll F os as us vs H → imAll F.G (rts as) noB us vs H
  | [], _, h => h
  | u :: us, _, ⟨v, r, e, h1, h2⟩ => ⟨v, r, e, rd_im0 h1, rdAll_im0 h2⟩
end
/-! ### judgements -/
section
variable (F : Fr)
abbrev PP (α : Type) := Os → SA → Hp → α → V → Hp → Prop
def EvP {α : Type} (P : PP α) (te : TE) (δ : Dl) (w : M α) : Prop := ∀ os as st γ σ H a st', SDo F os as st γ H σ δ → w st = some (.ok a, st') → ∀ QQ : VK, (∀ v H' as', Go as as' H H' → SDo F os as' st' γ H' σ δ → P os as' H a v H' → QQ v H') → te σ H QQ
def EvW : TE → Dl → M U → Prop := EvP F fun os as _ u v H => im F.G (rts as) (ban F os as) u v H
def EvR : TE → Dl → M U → Prop := EvP F fun os as _ u v H => rd F os as u v H
/-- a new object, of one's own -/
def EvN (s : Sh) (te : TE) (δ : Dl) (w : M U) : Prop := ∀ os as st γ σ H a st', SDo F os as st γ H σ δ → w st = some (.ok a, st') → ∀ QQ : VK, (∀ v H' as' A, Go as as' H H' → (∀ k, k ∉ os.map (·.1) → SDo F ((k, A) :: os) as' st' γ H' σ δ) → ownD F.G (rts as') (ban F ((0, A) :: os) as') s a v H' A → (∀ a ∈ A, H a = none) → QQ v H') → te σ H QQ
def EvT (tt : TT) (δ : Dl) (w : M Bool) : Prop := ∀ os as st γ σ H a st', SDo F os as st γ H σ δ → w st = some (.ok a, st') → ∀ QQ : Bool → Hp → Prop, (∀ H' as', Go as as' H H' → SDo F os as' st' γ H' σ δ → QQ a H') → tt σ H QQ
def EvO (to : TO) (δ : Dl) (w : M (Option Int)) : Prop := ∀ os as st γ σ H a st', SDo F os as st γ H σ δ → w st = some (.ok a, st') → ∀ QQ : Option Int → Hp → Prop, (∀ H' as', Go as as' H H' → SDo F os as' st' γ H' σ δ → QQ a H') → to σ H QQ
def EvA (P : Os → SA → List U → List V → Hp → Prop) (ta : TA) (δ : Dl) (w : M (List U)) : Prop := ∀ os as st γ σ H us st', SDo F os as st γ H σ δ → w st = some (.ok us, st') → ∀ QQ : List V → Hp → Prop, (∀ vs H' as', Go as as' H H' → SDo F os as' st' γ H' σ δ → P os as' us vs H' → QQ vs H') → ta σ H QQ
def EvAW : TA → Dl → M (List U) → Prop := EvA F fun os as us vs H => imAll F.G (rts as) (ban F os as) us vs H
def EvAR : TA → Dl → M (List U) → Prop := EvA F fun os as us vs H => rdAll F os as us vs H
end
inductive Out (S L : Type) where
  | nx (s : S) | rt (u : U) | bk (l : L) | ct (l : L)
/-- what is true as a def returns u -/
structure Rt (F : Fr) (as : SA) (st : Sto) (H : Hp) (u : U) (v : V) : Prop where
  rel : Go F.as0 as F.H0 H
  ok : BOk (ban F [] as) H
  nd : (fl as).Nodup
  nb : ∀ a ∈ fl as, ¬ F.B a
  sto : StOk F.G (ban F [] as) (rts as) as st H
  im : im F.G (rts as) (ban F [] as) u v H
def Post (F : Fr) {S L : Type} (D : Ends) (γ : List (U × V)) (st : Sto) (δn : S → Dl) (δl : L → Dl) : Out S L → Prop
  | .nx s => ∀ os as σ H, SDo F os as st γ H σ (δn s) → D.nx σ H
  | .rt u => ∀ as v H, Rt F as st H u v → D.rt v H
  | .bk l => ∀ os as σ H, SDo F os as st γ H σ (δl l) → D.bk σ H
  | .ct l => ∀ os as σ H, SDo F os as st γ H σ (δl l) → D.ct σ H
def Blk (F : Fr) {S L : Type} (t : TS) (δ : Dl) (w : M (Out S L)) (δn : S → Dl) (δl : L → Dl) : Prop := ∀ D os as st γ σ H o st', SDo F os as st γ H σ δ → w st = some (.ok o, st') → Post F D γ st' δn δl o → t D σ H
end UX

set_option Elab.async false
set_option linter.all false
set_option maxRecDepth 100000
set_option maxHeartbeats 4000000
set_option autoImplicit false
namespace UX
open PySem PySem.Spec PyProof.Rows L2
open EL (Ex RB BOk Bn TK rAddU rMulU rSlU rEqU rNeU rLtU rLenQ rTupQ rListQ rReprD cut)
/-! ### plain operations -/
def addU : U → U → Option U
  | .int i, .int j => some (.int (i + j))
  | .tup a, .tup b => if a.length + b.length ≤ sizeLine then some (.tup (a ++ b)) else none
  | .lst a, .lst b => if a.length + b.length ≤ sizeLine then some (.lst (a ++ b)) else none
  | .str a, .str b => if a.length + b.length ≤ sizeLine then some (.str (a ++ b)) else none
  | _, _ => none
def subU : U → U → Option U
  | .int i, .int j => some (.int (i - j))
  | _, _ => none
instance (i j : Int) : Decidable (CMul i j) := by unfold CMul; infer_instance
instance (i j : Int) : Decidable (CDivN i j) := by unfold CDivN; infer_instance
instance (i j : Int) : Decidable (CPow i j) := by unfold CPow; infer_instance
def mulU : U → U → Option U
  | .int i, .int j => if CMul i j then some (.int (i * j)) else none
  | .tup a, .int k => if 0 ≤ k ∧ k ≤ 1000 ∧ a.length ≤ 1000 then some (.tup (List.replicate k.toNat a).flatten) else none
  | .lst a, .int k => if 0 ≤ k ∧ k ≤ 1000000 ∧ a.length * k.toNat ≤ sizeLine then some (.lst (List.replicate k.toNat a).flatten) else none
  | _, _ => none
def modU : U → U → Option U
  | .int i, .int j => if j ≠ 0 then some (.int (i.fmod j)) else none
  | _, _ => none
def fdivU : U → U → Option U
  | .int i, .int j => if CDivN i j then some (.int (i.fdiv j)) else none
  | _, _ => none
def powU : U → U → Option U
  | .int i, .int j => if CPow i j then some (.int (i ^ j.toNat)) else none
  | _, _ => none
def negU : U → Option U
  | .int i => some (.int (-i))
  | _ => none
def leU : U → U → Option U
  | .int i, .int j => some (.bl (decide (i ≤ j)))
  | _, _ => none
def gtU : U → U → Option U
  | .int i, .int j => some (.bl (decide (j < i)))
  | _, _ => none
def geU : U → U → Option U
  | .int i, .int j => some (.bl (decide (j ≤ i)))
  | _, _ => none
def lt0U : U → U → Option U
  | .int i, .int j => some (.bl (decide (i < j)))
  | _, _ => none
def notNone : PyData → Bool
  | .none => false
  | _ => true
theorem notNone_ne {d : PyData} (h : notNone d = true) : d ≠ .none := fun e => by rw [e] at h; cases h
def ltU : U → U → Option U
  | .int i, .int j => some (.bl (decide (i < j)))
  | a, b => match pd a, pd b with
    | some d, some e => if PySem.W.alike d e = true ∧ notNone d = true ∧ d.depth ≤ 64 then some (.bl (PySem.W.dataLt d e)) else none
    | _, _ => none
def eqD (a b : U) : Option U := match pd a, pd b with
  | some d, some e => if SeqAt.shaped d = true ∧ SeqAt.shaped e = true then some (.bl (PyData.eqv d e)) else none
  | _, _ => none
def neD (a b : U) : Option U := match pd a, pd b with
  | some d, some e => if SeqAt.shaped d = true ∧ SeqAt.shaped e = true then some (.bl (!PyData.eqv d e)) else none
  | _, _ => none
def eqU : U → U → Option U
  | .str x, .str y => some (.bl (decide (x = y)))
  | a, b => eqD a b
def neU : U → U → Option U
  | .str x, .str y => some (.bl (!decide (x = y)))
  | a, b => neD a b
def isNU : U → Bool
  | .non => true
  | _ => false
def ixU : U → U → Option U
  | .lst us, .int i => atI us i
  | .tup us, .int i => atI us i
  | .frl us, .int i => atI us i
  | _, _ => none
def slU : U → Option Int → Option Int → Option U
  | .lst us, lo, hi => some (.lst (cut us lo hi))
  | .tup us, lo, hi => some (.tup (cut us lo hi))
  | .frl us, lo, hi => some (.lst (cut us lo hi))
  | _, _, _ => none
def lenU : U → Option U
  | .lst us => some (.int us.length)
  | .tup us => some (.int us.length)
  | .frl us => some (.int us.length)
  | _ => none
def tupleU : U → Option U
  | .lst us => some (.tup us)
  | .tup us => some (.tup us)
  | _ => none
def listU : U → Option U
  | .lst us => some (.lst us)
  | .tup us => some (.lst us)
  | _ => none
def boolsU : List U → Option (List Bool)
  | [] => some []
  | .bl b :: r => (boolsU r).map (b :: ·)
  | _ => none
def allU : U → Option U
  | .lst us => (boolsU us).map fun bs => .bl (bs.all id)
  | _ => none
def anyU : U → Option U
  | .lst us => (boolsU us).map fun bs => .bl (bs.any id)
  | _ => none
def tyU : U → Option String
  | .non => some "NoneType"
  | .bl _ => some "bool"
  | .int _ => some "int"
  | .str _ => some "str"
  | .tup _ => some "tuple"
  | .lst _ => some "list"
  | .dct _ _ => some "dict"
  | _ => none
def subT (a b : String) : Bool := a == b || (a == "bool" && b == "int")
def isiU (u : U) (T : String) : Option U := match tyU u with
  | some t => if ["int", "bool", "str", "tuple", "list", "dict"].contains T then some (.bl (subT t T)) else none
  | none => none
theorem kit_all : (["NoneType", "bool", "int", "str", "tuple", "list", "dict"].all fun a => ["int", "bool", "str", "tuple", "list", "dict"].all fun b => kitB a b == some (subT a b)) = true := by decide +kernel
theorem kit_is {u : U} {t T : String} (h : tyU u = some t) (hT : ["int", "bool", "str", "tuple", "list", "dict"].contains T = true) : kitB t T = some (subT t T) := by
  have h1 : t ∈ ["NoneType", "bool", "int", "str", "tuple", "list", "dict"] := by
    cases u <;> simp [tyU] at h <;> subst h <;> decide
  have h2 := List.all_eq_true.mp (List.all_eq_true.mp kit_all t h1) T (by simpa using hT)
  simpa using h2
def reprU (u : U) : Option U := match pd u with
  | some d => if d.showable = true ∧ d.hasDict = false ∧ d.depth ≤ 64 ∧ d.shown.length ≤ sizeLine then some (.str d.shown) else none
  | none => none
def notU : U → Option U
  | .bl b => some (.bl (!b))
  | _ => none
def boolU : U → Option Bool
  | .bl b => some b
  | _ => none
def intU : U → Option Int
  | .int i => some i
  | _ => none
section
variable {F : Fr}
/-- an operation upon values -/
def OpOk (F : Fr) (r : R2) (f : U → U → Option U) : Prop := ∀ os as H a b c x y, BOk (ban F os as) H → rd F os as a x H → rd F os as b y H → f a b = some c → ∀ QQ : VK, (∀ v H', Ex H H' → im F.G (rts as) (ban F os as) c v H' → QQ v H') → r x y H QQ
def Op1Ok (F : Fr) (r : List V → Hp → VK → Prop) (f : U → Option U) : Prop := ∀ os as H a c x, BOk (ban F os as) H → rd F os as a x H → f a = some c → ∀ QQ : VK, (∀ v H', Ex H H' → im F.G (rts as) (ban F os as) c v H' → QQ v H') → r [x] H QQ
/-! ints -/
theorem op_I0 {g : Int → Int → V} {f : U → U → Option U} (hf : ∀ a b c, f a b = some c → ∃ i j, a = .int i ∧ b = .int j ∧ ∀ os as H, im F.G (rts as) (ban F os as) c (g i j) H) : OpOk F (rI0 g) f := fun os as H a b c x y ok ha hb e QQ k => by
  obtain ⟨i, j, rfl, rfl, h⟩ := hf a b c e
  exact ⟨i, j, ha, hb, k _ H (Ex.refl H) (h os as H)⟩
theorem ok_sub : OpOk F (rI0 fun i j => .int (i - j)) subU := op_I0 fun a b c e => by
  cases a <;> cases b <;> simp [subU] at e
  subst e; exact ⟨_, _, rfl, rfl, fun _ _ _ => rfl⟩
theorem ok_lt0 : OpOk F (rI0 fun i j => .bl (decide (i < j))) lt0U := op_I0 fun a b c e => by
  cases a <;> cases b <;> simp [lt0U] at e
  subst e; exact ⟨_, _, rfl, rfl, fun _ _ _ => rfl⟩
theorem ok_le : OpOk F (rI0 fun i j => .bl (decide (i ≤ j))) leU := op_I0 fun a b c e => by
  cases a <;> cases b <;> simp [leU] at e
  subst e; exact ⟨_, _, rfl, rfl, fun _ _ _ => rfl⟩
theorem ok_gt : OpOk F (rI0 fun i j => .bl (decide (j < i))) gtU := op_I0 fun a b c e => by
  cases a <;> cases b <;> simp [gtU] at e
  subst e; exact ⟨_, _, rfl, rfl, fun _ _ _ => rfl⟩
theorem ok_ge : OpOk F (rI0 fun i j => .bl (decide (j ≤ i))) geU := op_I0 fun a b c e => by
  cases a <;> cases b <;> simp [geU] at e
  subst e; exact ⟨_, _, rfl, rfl, fun _ _ _ => rfl⟩
theorem ok_mod : OpOk F (rI (fun _ j => j ≠ 0) fun i j => .int (i.fmod j)) modU := fun os as H a b c x y ok ha hb e QQ k => by
  cases a <;> cases b <;> simp [modU] at e
  rename_i i j
  obtain ⟨h0, rfl⟩ := e
  exact ⟨i, j, ha, hb, h0, k _ H (Ex.refl H) rfl⟩
theorem ok_fdiv : OpOk F (rI CDivN fun i j => .int (i.fdiv j)) fdivU := fun os as H a b c x y ok ha hb e QQ k => by
  cases a <;> cases b <;> simp [fdivU] at e
  rename_i i j
  obtain ⟨h0, rfl⟩ := e
  exact ⟨i, j, ha, hb, h0, k _ H (Ex.refl H) rfl⟩
theorem ok_pow : OpOk F (rI CPow fun i j => .int (i ^ j.toNat)) powU := fun os as H a b c x y ok ha hb e QQ k => by
  cases a <;> cases b <;> simp [powU] at e
  rename_i i j
  obtain ⟨h0, rfl⟩ := e
  exact ⟨i, j, ha, hb, h0, k _ H (Ex.refl H) rfl⟩
theorem ok_add : OpOk F (rAddU F.G.K) addU := fun os as H a b c x y ok ha hb e QQ k => by
  cases a <;> cases b <;> simp [addU] at e
  · subst e; exact .inl ⟨_, _, ha, hb, k _ H (Ex.refl H) rfl⟩
  · obtain ⟨hl, rfl⟩ := e; exact .inr (.inr (.inr ⟨_, _, ha, hb, hl, k _ H (Ex.refl H) rfl⟩))
  · obtain ⟨hl, rfl⟩ := e
    rename_i us vs
    obtain ⟨a, xs, rfl, ta, qa⟩ := ha
    obtain ⟨b, ys, rfl, tb, qb⟩ := hb
    refine .inr (.inl ⟨a, b, xs, ys, rfl, rfl, EL.sqT_of ta, EL.sqT_of tb, by rw [imAll_len qa, imAll_len qb]; exact hl, fun z => ?_, fun _ z => ?_, fun _ _ p hp => ?_⟩)
    · subst z
      have : us = [] := List.eq_nil_of_length_eq_zero (imAll_len qa).symm
      subst this
      exact k _ H (Ex.refl H) ⟨b, ys, rfl, tb, qb⟩
    · subst z
      have : vs = [] := List.eq_nil_of_length_eq_zero (imAll_len qb).symm
      subst this
      exact k _ H (Ex.refl H) (by rw [List.append_nil]; exact ⟨a, xs, rfl, ta, qa⟩)
    · exact k _ _ (Ex.new hp) ⟨p, xs ++ ys, rfl, upd_same, imAll_st (RB.of_ex (Ex.new hp)) _ _ (imAll_append qa qb)⟩
  · obtain ⟨hl, rfl⟩ := e
    obtain ⟨a, xs, rfl, na, ta, qa⟩ := ha
    obtain ⟨b, ys, rfl, nb, tb, qb⟩ := hb
    exact .inr (.inr (.inl ⟨a, b, xs, ys, rfl, rfl, ta, tb, by rw [imAll_len qa, imAll_len qb]; exact hl, fun p hp => k _ _ (Ex.new hp) ⟨p, xs ++ ys, rfl, fun z => ok p z hp, upd_same, imAll_st (RB.of_ex (Ex.new hp)) _ _ (imAll_append qa qb)⟩⟩))
theorem ok_mul : OpOk F (rMulU F.G.K) mulU := fun os as H a b c x y ok ha hb e QQ k => by
  cases a <;> cases b <;> simp [mulU] at e
  · obtain ⟨hc, rfl⟩ := e; exact .inl ⟨_, _, ha, hb, hc, k _ H (Ex.refl H) rfl⟩
  · obtain ⟨⟨h0, h1, hl⟩, rfl⟩ := e
    rename_i us i
    obtain ⟨a, xs, rfl, ta, qa⟩ := ha
    refine .inr (.inl ⟨a, i, xs, rfl, hb, EL.sqT_of ta, h0, h1, by rw [imAll_len qa]; exact hl, fun z => k _ H (Ex.refl H) ⟨a, xs, rfl, ta, ?_⟩, fun _ _ p hp => k _ _ (Ex.new hp) ⟨p, _, rfl, upd_same, imAll_st (RB.of_ex (Ex.new hp)) _ _ (imAll_rep qa _)⟩⟩)
    rcases z with z | z
    · subst z
      have : us = [] := List.eq_nil_of_length_eq_zero (imAll_len qa).symm
      subst this
      rw [show (List.replicate i.toNat ([] : List U)).flatten = [] by simp]
      exact qa
    · subst z
      rw [show (List.replicate (1 : Int).toNat us).flatten = us by simp]
      exact qa
  · obtain ⟨⟨h0, h1, hl⟩, rfl⟩ := e
    rename_i us i
    obtain ⟨a, xs, rfl, na, ta, qa⟩ := ha
    exact .inr (.inr ⟨a, i, xs, rfl, hb, ta, by omega, by omega, by rw [imAll_len qa]; exact hl, fun p hp => k _ _ (Ex.new hp) ⟨p, _, rfl, fun z => ok p z hp, upd_same, imAll_st (RB.of_ex (Ex.new hp)) _ _ (imAll_rep qa _)⟩⟩)
theorem ok_eqD : OpOk F (rEqU F.G.K) eqD := fun os as H a b c x y ok ha hb e QQ k => by
  unfold eqD at e
  cases e1 : pd a with
  | none => rw [e1] at e; cases e
  | some d =>
    cases e2 : pd b with
    | none => rw [e1, e2] at e; cases e
    | some d' =>
      rw [e1, e2] at e
      simp at e
      obtain ⟨⟨h1, h2⟩, rfl⟩ := e
      exact .inl ⟨d, d', rd_dp ha e1, rd_dp hb e2, h1, h2, k _ H (Ex.refl H) rfl⟩
theorem ok_neD : OpOk F (rNeU F.G.K) neD := fun os as H a b c x y ok ha hb e QQ k => by
  unfold neD at e
  cases e1 : pd a with
  | none => rw [e1] at e; cases e
  | some d =>
    cases e2 : pd b with
    | none => rw [e1, e2] at e; cases e
    | some d' =>
      rw [e1, e2] at e
      simp at e
      obtain ⟨⟨h1, h2⟩, rfl⟩ := e
      exact .inl ⟨d, d', rd_dp ha e1, rd_dp hb e2, h1, h2, k _ H (Ex.refl H) rfl⟩
theorem ok_eq : OpOk F (rEqU F.G.K) eqU := fun os as H a b c x y ok ha hb e QQ k => by
  by_cases h : ∃ s t, a = .str s ∧ b = .str t
  · obtain ⟨s, t, rfl, rfl⟩ := h
    cases e
    cases (show x = V.str s from ha); cases (show y = V.str t from hb)
    exact .inr ⟨rfl, k _ H (Ex.refl H) (by show V.bl _ = V.bl _; congr 1; by_cases z : s = t <;> simp [z])⟩
  · exact ok_eqD os as H a b c x y ok ha hb (by
      unfold eqU at e
      split at e
      · exact absurd ⟨_, _, rfl, rfl⟩ h
      · exact e) QQ k
theorem ok_ne : OpOk F (rNeU F.G.K) neU := fun os as H a b c x y ok ha hb e QQ k => by
  by_cases h : ∃ s t, a = .str s ∧ b = .str t
  · obtain ⟨s, t, rfl, rfl⟩ := h
    cases e
    cases (show x = V.str s from ha); cases (show y = V.str t from hb)
    exact .inr ⟨rfl, k _ H (Ex.refl H) (by show V.bl _ = V.bl _; congr 2; by_cases z : s = t <;> simp [z])⟩
  · exact ok_neD os as H a b c x y ok ha hb (by
      unfold neU at e
      split at e
      · exact absurd ⟨_, _, rfl, rfl⟩ h
      · exact e) QQ k
theorem ok_lt : OpOk F (rLtU F.G.K) ltU := fun os as H a b c x y ok ha hb e QQ k => by
  have gen : ∀ {a b : U} {x y : V}, rd F os as a x H → rd F os as b y H → (match pd a, pd b with
    | some d, some e => if PySem.W.alike d e = true ∧ notNone d = true ∧ d.depth ≤ 64 then some (U.bl (PySem.W.dataLt d e)) else none
    | _, _ => none) = some c → rLtU F.G.K x y H QQ := fun {a b x y} ha hb e => by
    cases e1 : pd a with
    | none => rw [e1] at e; cases e
    | some d =>
      cases e2 : pd b with
      | none => rw [e1, e2] at e; cases e
      | some d' =>
        rw [e1, e2] at e
        simp at e
        obtain ⟨⟨h1, h2, h3⟩, rfl⟩ := e
        exact .inr ⟨d, d', rd_dp ha e1, rd_dp hb e2, h1, notNone_ne h2, h3, k _ H (Ex.refl H) rfl⟩
  cases a with
  | int i =>
    cases b with
    | int j => simp [ltU] at e; subst e; exact .inl ⟨i, j, ha, hb, k _ H (Ex.refl H) rfl⟩
    | _ => exact gen ha hb e
  | _ => exact gen ha hb e
theorem atI_im {G : Cxt} {rs : List Addr} {B : Bn} {H : Hp} {us : List U} {vs : List V} {i : Int} {u : U} (h : imAll G rs B us vs H) (e : atI us i = some u) : ∃ v, atI vs i = some v ∧ im G rs B u v H := by
  unfold atI at e ⊢
  rw [imAll_len h]
  cases q : ixN us.length i with
  | none => rw [q] at e; cases e
  | some j =>
    rw [q] at e
    exact imAll_get h (show us[j]? = some u from e)
theorem ok_ix : OpOk F (rIx F.G.K) ixU := fun os as H a b c x y ok ha hb e QQ k => by
  cases a <;> cases b <;> simp [ixU] at e
  · obtain ⟨a, xs, rfl, ta, qa⟩ := ha
    obtain ⟨v, e1, e2⟩ := atI_im qa e
    exact .inr (.inl ⟨a, xs, _, v, rfl, hb, EL.sqT_of ta, e1, k v H (Ex.refl H) e2⟩)
  · obtain ⟨a, xs, rfl, _, ta, qa⟩ := ha
    obtain ⟨v, e1, e2⟩ := atI_im qa e
    exact .inl ⟨a, xs, _, v, rfl, hb, .inl (.inl ta), e1, k v H (Ex.refl H) e2⟩
  · obtain ⟨a, xs, rfl, ta, qa⟩ := ha
    obtain ⟨v, e1, e2⟩ := atI_im qa e
    exact .inl ⟨a, xs, _, v, rfl, hb, ta.sq, e1, k v H (Ex.refl H) e2⟩
theorem ok_len : Op1Ok F (rLenQ F.G.K) lenU := fun os as H a c x ok ha e QQ k => by
  cases a <;> simp [lenU] at e <;> subst e
  · obtain ⟨a, xs, rfl, ta, qa⟩ := ha
    exact ⟨a, xs, rfl, .inr (EL.sqT_of ta), k _ H (Ex.refl H) (by rw [imAll_len qa]; rfl)⟩
  · obtain ⟨a, xs, rfl, _, ta, qa⟩ := ha
    exact ⟨a, xs, rfl, .inl (.inl (.inl ta)), k _ H (Ex.refl H) (by rw [imAll_len qa]; rfl)⟩
  · obtain ⟨a, xs, rfl, ta, qa⟩ := ha
    exact ⟨a, xs, rfl, .inl ta.sq, k _ H (Ex.refl H) (by rw [imAll_len qa]; rfl)⟩
theorem ok_tuple : Op1Ok F (rTupQ F.G.K) tupleU := fun os as H a c x ok ha e QQ k => by
  cases a <;> simp [tupleU] at e <;> subst e
  · obtain ⟨a, xs, rfl, ta, qa⟩ := ha
    exact ⟨a, xs, rfl, .inr ⟨EL.sqT_of ta, k _ H (Ex.refl H) ⟨a, xs, rfl, ta, qa⟩⟩⟩
  · obtain ⟨a, xs, rfl, _, ta, qa⟩ := ha
    exact ⟨a, xs, rfl, .inl ⟨.inl (.inl ta), fun l hl => k _ _ (Ex.new hl) ⟨l, xs, rfl, upd_same, imAll_st (RB.of_ex (Ex.new hl)) _ _ qa⟩⟩⟩
theorem ok_list : Op1Ok F (rListQ F.G.K) listU := fun os as H a c x ok ha e QQ k => by
  cases a <;> simp [listU] at e <;> subst e
  · obtain ⟨a, xs, rfl, ta, qa⟩ := ha
    exact ⟨a, xs, rfl, .inr (EL.sqT_of ta), fun l hl => k _ _ (Ex.new hl) ⟨l, xs, rfl, fun z => ok l z hl, upd_same, imAll_st (RB.of_ex (Ex.new hl)) _ _ qa⟩⟩
  · obtain ⟨a, xs, rfl, _, ta, qa⟩ := ha
    exact ⟨a, xs, rfl, .inl (.inl (.inl ta)), fun l hl => k _ _ (Ex.new hl) ⟨l, xs, rfl, fun z => ok l z hl, upd_same, imAll_st (RB.of_ex (Ex.new hl)) _ _ qa⟩⟩
theorem imAll_bools {G : Cxt} {rs : List Addr} {B : Bn} {H : Hp} : ∀ {us : List U} {bs : List Bool} {vs : List V}, boolsU us = some bs → imAll G rs B us vs H → vs = bs.map V.bl
  | [], bs, vs, e, h => by cases e; exact h
  | .bl b :: r, bs, vs, e, ⟨v, w, ev, h1, h2⟩ => by
    cases e1 : boolsU r with
    | none => rw [boolsU, e1] at e; cases e
    | some cs =>
      rw [boolsU, e1] at e; cases e
      rw [ev, show v = _ from h1, imAll_bools e1 h2]; rfl
theorem ok_all : Op1Ok F (rAll F.G.K) allU := fun os as H a c x ok ha e QQ k => by
  cases a <;> simp [allU] at e
  obtain ⟨bs, e1, rfl⟩ := e
  obtain ⟨a, xs, rfl, _, ta, qa⟩ := ha
  rw [imAll_bools e1 qa] at ta
  exact ⟨a, bs, rfl, .inl (.inl ta), k _ H (Ex.refl H) rfl⟩
theorem ok_any : Op1Ok F (rAny F.G.K) anyU := fun os as H a c x ok ha e QQ k => by
  cases a <;> simp [anyU] at e
  obtain ⟨bs, e1, rfl⟩ := e
  obtain ⟨a, xs, rfl, _, ta, qa⟩ := ha
  rw [imAll_bools e1 qa] at ta
  exact ⟨a, bs, rfl, .inl (.inl ta), k _ H (Ex.refl H) rfl⟩
theorem ok_repr : Op1Ok F (rReprD F.G.K) reprU := fun os as H a c x ok ha e QQ k => by
  unfold reprU at e
  cases e1 : pd a with
  | none => rw [e1] at e; cases e
  | some d =>
    rw [e1] at e
    simp at e
    obtain ⟨⟨h1, h2, h3, h4⟩, rfl⟩ := e
    exact ⟨x, d, rfl, rd_dp ha e1, h1, h2, h3, h4, k _ H (Ex.refl H) rfl⟩
theorem rd_ty {os : Os} {as : SA} {H : Hp} : ∀ {u : U} {v : V} {t : String}, tyU u = some t → rd F os as u v H → TyX F.G.K H v (.type t)
  | .non, _, _, e, h => by cases e; cases (show _ = _ from h); exact .base .non
  | .bl _, _, _, e, h => by cases e; cases (show _ = _ from h); exact .base (.bl _)
  | .int _, _, _, e, h => by cases e; cases (show _ = _ from h); exact .base (.int _)
  | .str _, _, _, e, h => by cases e; cases (show _ = _ from h); exact .base (.str _)
  | .tup us, _, _, e, ⟨a, vs, ev, s, _⟩ => by
    cases e; subst ev
    exact .base (.tup s)
  | .lst us, _, _, e, ⟨a, vs, ev, _, s, _⟩ => by
    cases e; subst ev
    exact .base (.lst s)
  | .dct ks us, _, _, e, ⟨a, vs, ev, _, s, _, _⟩ => by
    cases e; subst ev
    rcases s with s | ⟨o, s⟩
    · exact .base (.dK s)
    · exact .fDict s
end
end UX

set_option Elab.async false
set_option linter.all false
set_option maxRecDepth 100000
set_option maxHeartbeats 4000000
set_option autoImplicit false
namespace UX
open PySem PySem.Spec PyProof.Rows L2
open EL (Ex RB BOk Bn TK rAddU rMulU rSlU rEqU rNeU rLtU rLenQ rTupQ rListQ rReprD cut)
/-! ### expressions -/
def op1 (f : U → Option U) (wa : M U) : M U := .bind wa fun a => .o (f a)
def op2 (f : U → U → Option U) (wa wb : M U) : M U := .bind wa fun a => .bind wb fun b => .o (f a b)
def testW (wa : M U) : M Bool := .bind wa fun a => .o (boolU a)
def notT (w : M Bool) : M Bool := .bind w fun b => .ret (!b)
def andT (w w' : M Bool) : M Bool := .bind w fun b => if b = true then w' else .ret false
def orT (w w' : M Bool) : M Bool := .bind w fun b => if b = true then .ret true else w'
def andW (w w' : M U) : M U := .bind (testW w) fun b => if b = true then w' else .ret (.bl false)
def orW (w w' : M U) : M U := .bind (testW w) fun b => if b = true then .ret (.bl true) else w'
def iteW {α : Type} (c : M Bool) (w w' : M α) : M α := .bind c fun b => if b = true then w else w'
def chainW (f g : U → U → Option U) (wa wb wc : M U) : M U := .bind wa fun a => .bind wb fun b => .bind (testW (.o (f a b))) fun k => if k = true then .bind wc fun c => .o (g b c) else .ret (.bl false)
def consA (wa : M U) (wr : M (List U)) : M (List U) := .bind wa fun a => .bind wr fun r => .ret (a :: r)
def nilA : M (List U) := .ret []
def tupW (wa : M (List U)) : M U := .bind wa fun us => .o (if us.length ≤ sizeLine then some (.tup us) else none)
def lstW (wa : M (List U)) : M U := .bind wa fun us => .o (if us.length ≤ sizeLine then some (.lst us) else none)
def noP : M (Option Int) := .ret none
def someP (w : M U) : M (Option Int) := .bind w fun u => .o ((intU u).map some)
def slW (wa : M U) (wl wh : M (Option Int)) : M U := .bind wa fun a => .bind wl fun l => .bind wh fun h => .o (slU a l h)
section
variable {F : Fr} {δ : Dl} {te ta tb tc : TE} {tt tu : TT} {wa wb wc : M U} {w w' : M U} {wt wu : M Bool}
theorem EvW.r (h : EvW F te δ w) : EvR F te δ w := fun os as st γ σ H a st' S q QQ k => h os as st γ σ H a st' S q QQ fun v H' as' g S' p => k v H' as' g S' (rd_of_im p)
theorem ev_var {i : Nat} {u : U} (h : δ[i]? = some (some (.im u))) : EvW F (tVar i) δ (.ret u) := fun os as st γ σ H a st' S q QQ k => by
  cases q
  obtain ⟨v, e, p⟩ := S.get h
  exact ⟨v, e, k v H as (Go.refl _ _) S p⟩
theorem rd_of_own {os : Os} {as : SA} {i : Nat} {s : Sh} {u : U} {v : V} {H : Hp} {A : List Addr} (nd : (flo os ++ fl as).Nodup) (nb : ∀ a, a ∈ flo os ∨ a ∈ fl as → ¬ F.B a) (m : (i, A) ∈ os) (hs : s = .lst .leaf ∨ s = .dct .leaf ∨ s = .obj (fun _ => .leaf) ∨ s = .leaf) (h : ownD F.G (rts as) (ban F os as) s u v H A) : rd F os as u v H := by
  have off : ∀ a ∈ A, ¬ ban F [] as a := fun a z q => q.elim (nb a (.inl (mem_flo m z))) fun q => q.elim (fun w => nomatch w) fun q => (List.nodup_append.mp nd).2.2 a (mem_flo m z) a q rfl
  rcases hs with rfl | rfl | rfl | rfl
  · cases u <;> first | exact h.elim | skip
    obtain ⟨a, vs, e1, e2, h1, q⟩ := own_lst.mp h
    exact ⟨a, vs, e1, off a (by rw [e2]; exact List.mem_cons_self), h1, q⟩
  · cases u <;> first | exact h.elim | skip
    · obtain ⟨a, vs, e1, e2, h1, l, q⟩ := own_dct.mp h
      exact ⟨a, vs, e1, off a (by rw [e2]; exact List.mem_cons_self), .inl h1, l, q⟩
    · obtain ⟨a, vs, e1, e2, h1, l, q⟩ := own_dcT.mp h
      exact ⟨a, vs, e1, off a (by rw [e2]; exact List.mem_cons_self), .inl h1, l, q⟩
  · cases u <;> first | exact h.elim | skip
    rename_i c ns us
    obtain ⟨a, dx, vs, A', e1, e2, h1, l, q⟩ := h
    exact ⟨a, dx, vs, e1, off a (by rw [e2]; exact List.mem_cons_self), h1, l, ((ownZ_leaf (f := fun n => (fun _ => Sh.leaf) (ns.getD n "")) fun _ => rfl).mp q).2⟩
  · exact rd_of_im h.2
theorem ev_own {i : Nat} {s : Sh} {u : U} (h : δ[i]? = some (some (.own s u))) (hs : s = .lst .leaf ∨ s = .dct .leaf ∨ s = .obj (fun _ => .leaf) ∨ s = .leaf) : EvR F (tVar i) δ (.ret u) := fun os as st γ σ H a st' S q QQ k => by
  cases q
  obtain ⟨v, e, A, m, p⟩ := S.get h
  exact ⟨v, e, k v H as (Go.refl _ _) S (rd_of_own S.nd S.nb m hs p)⟩
theorem ev_ownL {i : Nat} {u : U} (h : δ[i]? = some (some (.own (.lst .leaf) u))) : EvR F (tVar i) δ (.ret u) := ev_own h (.inl rfl)
theorem ev_ownD {i : Nat} {u : U} (h : δ[i]? = some (some (.own (.dct .leaf) u))) : EvR F (tVar i) δ (.ret u) := ev_own h (.inr (.inl rfl))
theorem ev_c {v : V} {u : U} (h : ∀ os as H, im F.G (rts as) (ban F os as) u v H) : EvW F (tC v) δ (.ret u) := fun os as st γ σ H a st' S q QQ k => by
  cases q; exact k _ H as (Go.refl _ _) S (h os as H)
theorem ev_int {i : Int} : EvW F (tC (.int i)) δ (.ret (.int i)) := ev_c fun _ _ _ => rfl
theorem ev_bl {b : Bool} : EvW F (tC (.bl b)) δ (.ret (.bl b)) := ev_c fun _ _ _ => rfl
theorem ev_str {x : Str} : EvW F (tC (.str x)) δ (.ret (.str x)) := ev_c fun _ _ _ => rfl
theorem ev_non : EvW F (tC .non) δ (.ret .non) := ev_c fun _ _ _ => rfl
theorem ev_op {r : R2} {f : U → U → Option U} (h : OpOk F r f) (ha : EvR F ta δ wa) (hb : EvR F tb δ wb) : EvW F (tOp r ta tb) δ (op2 f wa wb) := fun os as st γ σ H c st' S q QQ k => by
  obtain ⟨a, st1, qa, q⟩ := M.bind_inv q
  obtain ⟨b, st2, qb, q⟩ := M.bind_inv q
  obtain ⟨e, rfl⟩ := M.o_inv q
  exact ha os as st γ σ H a st1 S qa _ fun x H1 as1 g1 S1 px => hb os as1 st1 γ σ H1 b _ S1 qb _ fun y H2 as2 g2 S2 py =>
    h os as2 H2 a b c x y S2.ok (rd_go g2 px) py e QQ fun v H3 e3 p3 => k v H3 as2 ((g1.trans g2).trans (Go.of_ex e3)) (S2.ex e3) p3
theorem ev_cb1 {r : List V → Hp → VK → Prop} {f : U → Option U} (h : Op1Ok F r f) (ha : EvR F ta δ wa) : EvW F (tCB r (tCons ta tNil)) δ (op1 f wa) := fun os as st γ σ H c st' S q QQ k => by
  obtain ⟨a, st1, qa, q⟩ := M.bind_inv q
  obtain ⟨e, rfl⟩ := M.o_inv q
  exact ha os as st γ σ H a _ S qa _ fun x H1 as1 g1 S1 px => h os as1 H1 a c x S1.ok px e QQ fun v H3 e3 p3 => k v H3 as1 (g1.trans (Go.of_ex e3)) (S1.ex e3) p3
theorem ev_neg (ha : EvR F ta δ wa) : EvW F (tUn (rU fun i => .int (-i)) ta) δ (op1 negU wa) := fun os as st γ σ H c st' S q QQ k => by
  obtain ⟨a, st1, qa, q⟩ := M.bind_inv q
  obtain ⟨e, rfl⟩ := M.o_inv q
  refine ha os as st γ σ H a _ S qa _ fun x H1 as1 g1 S1 px => ?_
  cases a <;> simp [negU] at e
  subst e
  exact ⟨_, px, k _ H1 as1 g1 S1 rfl⟩
theorem ev_isi {T : String} (ha : EvR F ta δ wa) : EvW F (tCB (rIsi F.G.K) (tCons ta (tCons (tC (.ty T)) tNil))) δ (op1 (isiU · T) wa) := fun os as st γ σ H c st' S q QQ k => by
  obtain ⟨a, st1, qa, q⟩ := M.bind_inv q
  obtain ⟨ec, rfl⟩ := M.o_inv q
  refine ha os as st γ σ H a _ S qa _ fun x H1 as1 g1 S1 px => ?_
  unfold isiU at ec
  dsimp only at ec
  cases e : tyU a with
  | none => rw [e] at ec; cases ec
  | some t =>
    rw [e] at ec
    by_cases hT : ["int", "bool", "str", "tuple", "list", "dict"].contains T = true
    · simp only [hT, if_true] at ec
      cases ec
      exact ⟨x, .ty T, _, _, _, rfl, .ty T, rd_ty e px, kit_ty (kit_is e hT), k _ H1 as1 g1 S1 rfl⟩
    · simp only [hT] at ec; cases ec
theorem isN_rd {os : Os} {as : SA} {H : Hp} {a : U} {x : V} (px : rd F os as a x H) : decide (x = .non) = isNU a := by
  cases a with
  | non => rw [show x = .non from px]; rfl
  | bl _ | int _ | str _ | top _ => rw [show x = _ from px]; simp [isNU]
  | tup _ | frl _ => obtain ⟨a, vs, e, _⟩ := px; rw [e]; simp [isNU]
  | lst _ | dct _ _ | dcT _ _ => obtain ⟨a, vs, e, _⟩ := px; rw [e]; simp [isNU]
  | obj _ _ _ => obtain ⟨a, dx, vs, e, _⟩ := px; rw [e]; simp [isNU]
  | loc _ => obtain ⟨a, _, e⟩ := px; rw [e]; simp [isNU]
theorem ev_isN (ha : EvR F ta δ wa) : EvW F (tOp (fun x y H Q => y = .non ∧ Q (.bl (decide (x = .non))) H) ta (tC .non)) δ (.bind wa fun a => .ret (.bl (isNU a))) := fun os as st γ σ H c st' S q QQ k => by
  obtain ⟨a, st1, qa, q⟩ := M.bind_inv q
  cases q
  exact ha os as st γ σ H a _ S qa _ fun x H1 as1 g1 S1 px => ⟨rfl, k _ H1 as1 g1 S1 (by show V.bl _ = V.bl _; rw [isN_rd px])⟩
theorem ev_notN (ha : EvR F ta δ wa) : EvW F (tOp (fun x y H Q => y = .non ∧ Q (.bl (!decide (x = .non))) H) ta (tC .non)) δ (.bind wa fun a => .ret (.bl (!isNU a))) := fun os as st γ σ H c st' S q QQ k => by
  obtain ⟨a, st1, qa, q⟩ := M.bind_inv q
  cases q
  exact ha os as st γ σ H a _ S qa _ fun x H1 as1 g1 S1 px => ⟨rfl, k _ H1 as1 g1 S1 (by show V.bl _ = V.bl _; rw [isN_rd px])⟩
/-! tests -/
theorem rd_bl {os : Os} {as : SA} {H : Hp} {u : U} {v : V} {b : Bool} (e : boolU u = some b) (h : rd F os as u v H) : v = .bl b := by
  cases u <;> simp [boolU] at e
  subst e; exact h
theorem et_test (ha : EvR F te δ wa) : EvT F (tTest te) δ (testW wa) := fun os as st γ σ H c st' S q QQ k => by
  obtain ⟨a, st1, qa, q⟩ := M.bind_inv q
  obtain ⟨e, rfl⟩ := M.o_inv q
  exact ha os as st γ σ H a _ S qa _ fun x H1 as1 g1 S1 px => ⟨c, rd_bl e px, k H1 as1 g1 S1⟩
theorem et_B (ha : EvR F te δ wa) : EvT F (tB te) δ (testW wa) := fun os as st γ σ H c st' S q QQ k => by
  obtain ⟨a, st1, qa, q⟩ := M.bind_inv q
  obtain ⟨e, rfl⟩ := M.o_inv q
  exact ha os as st γ σ H a _ S qa _ fun x H1 as1 g1 S1 px => ⟨c, rd_bl e px, k H1 as1 g1 S1⟩
theorem et_not (h : EvT F tt δ wt) : EvT F (tNot tt) δ (notT wt) := fun os as st γ σ H c st' S q QQ k => by
  obtain ⟨a, st1, qa, q⟩ := M.bind_inv q
  cases q
  exact h os as st γ σ H a _ S qa _ fun H1 as1 g1 S1 => k H1 as1 g1 S1
theorem et_and (h : EvT F tt δ wt) (h' : EvT F tu δ wu) : EvT F (tAnd tt tu) δ (andT wt wu) := fun os as st γ σ H c st' S q QQ k => by
  obtain ⟨a, st1, qa, q⟩ := M.bind_inv q
  refine h os as st γ σ H a _ S qa _ fun H1 as1 g1 S1 => ?_
  cases a with
  | true => exact h' os as1 st1 γ σ H1 c st' S1 q QQ fun H2 as2 g2 S2 => k H2 as2 (g1.trans g2) S2
  | false => cases q; exact k H1 as1 g1 S1
theorem et_or (h : EvT F tt δ wt) (h' : EvT F tu δ wu) : EvT F (tOr tt tu) δ (orT wt wu) := fun os as st γ σ H c st' S q QQ k => by
  obtain ⟨a, st1, qa, q⟩ := M.bind_inv q
  refine h os as st γ σ H a _ S qa _ fun H1 as1 g1 S1 => ?_
  cases a with
  | false => exact h' os as1 st1 γ σ H1 c st' S1 q QQ fun H2 as2 g2 S2 => k H2 as2 (g1.trans g2) S2
  | true => cases q; exact k H1 as1 g1 S1
theorem et_yes : EvT F tYes δ (.ret true) := fun os as st γ σ H c st' S q QQ k => by
  cases q; exact k H as (Go.refl _ _) S
theorem ev_and (h : EvR F ta δ wa) (h' : EvW F tb δ wb) : EvW F (tAndV ta tb) δ (andW wa wb) := fun os as st γ σ H c st' S q QQ k => by
  obtain ⟨b, st1, qa, q⟩ := M.bind_inv q
  obtain ⟨a, st2, qa, q2⟩ := M.bind_inv qa
  obtain ⟨e, rfl⟩ := M.o_inv q2
  refine h os as st γ σ H a _ S qa _ fun x H1 as1 g1 S1 px => ⟨b, rd_bl e px, ?_⟩
  cases b with
  | true => exact h' os as1 _ γ σ H1 c st' S1 q _ fun v H2 as2 g2 S2 p => k v H2 as2 (g1.trans g2) S2 p
  | false => cases q; exact k _ H1 as1 g1 S1 rfl
theorem ev_or (h : EvR F ta δ wa) (h' : EvW F tb δ wb) : EvW F (tOrV ta tb) δ (orW wa wb) := fun os as st γ σ H c st' S q QQ k => by
  obtain ⟨b, st1, qa, q⟩ := M.bind_inv q
  obtain ⟨a, st2, qa, q2⟩ := M.bind_inv qa
  obtain ⟨e, rfl⟩ := M.o_inv q2
  refine h os as st γ σ H a _ S qa _ fun x H1 as1 g1 S1 px => ⟨b, rd_bl e px, ?_⟩
  cases b with
  | false => exact h' os as1 _ γ σ H1 c st' S1 q _ fun v H2 as2 g2 S2 p => k v H2 as2 (g1.trans g2) S2 p
  | true => cases q; exact k _ H1 as1 g1 S1 rfl
theorem ev_not (h : EvR F ta δ wa) : EvW F (tNotV ta) δ (op1 notU wa) := fun os as st γ σ H c st' S q QQ k => by
  obtain ⟨a, st1, qa, q⟩ := M.bind_inv q
  obtain ⟨e, rfl⟩ := M.o_inv q
  refine h os as st γ σ H a _ S qa _ fun x H1 as1 g1 S1 px => ?_
  cases a <;> simp [notU] at e
  subst e
  exact ⟨_, px, k _ H1 as1 g1 S1 rfl⟩
theorem evp_if {P : PP U} {wa wb : M U} (h : EvT F tt δ wt) (ha : EvP F P ta δ wa) (hb : EvP F P tb δ wb) (tr : ∀ os as H H0 u v H', (∀ a, H' a = none → H a = none) → P os as H' u v H0 → P os as H u v H0) : EvP F P (tIf tt ta tb) δ (iteW wt wa wb) := fun os as st γ σ H c st' S q QQ k => by
  obtain ⟨b, st1, qa, q⟩ := M.bind_inv q
  refine h os as st γ σ H b _ S qa _ fun H1 as1 g1 S1 => ?_
  cases b with
  | true => exact ha os as1 _ γ σ H1 c st' S1 q _ fun v H2 as2 g2 S2 p => k v H2 as2 (g1.trans g2) S2 (tr _ _ _ _ _ _ _ (fun a => g1.fresh) p)
  | false => exact hb os as1 _ γ σ H1 c st' S1 q _ fun v H2 as2 g2 S2 p => k v H2 as2 (g1.trans g2) S2 (tr _ _ _ _ _ _ _ (fun a => g1.fresh) p)
theorem ev_if (h : EvT F tt δ wt) (ha : EvW F ta δ wa) (hb : EvW F tb δ wb) : EvW F (tIf tt ta tb) δ (iteW wt wa wb) := evp_if h ha hb fun _ _ _ _ _ _ _ _ p => p
theorem er_if (h : EvT F tt δ wt) (ha : EvR F ta δ wa) (hb : EvR F tb δ wb) : EvR F (tIf tt ta tb) δ (iteW wt wa wb) := evp_if h ha hb fun _ _ _ _ _ _ _ _ p => p
theorem ev_chain {r r' : R2} {f g : U → U → Option U} (hf : OpOk F r f) (hg : OpOk F r' g) (ha : EvR F ta δ wa) (hb : EvR F tb δ wb) (hc : EvR F tc δ wc) : EvW F (tChain r r' ta tb tc) δ (chainW f g wa wb wc) := fun os as st γ σ H c st' S q QQ k => by
  obtain ⟨a, st1, qa, q⟩ := M.bind_inv q
  obtain ⟨b, st2, qb, q⟩ := M.bind_inv q
  obtain ⟨z, st3, qz, q⟩ := M.bind_inv q
  obtain ⟨y, st4, qy, qz2⟩ := M.bind_inv (show M.bind (M.o (f a b)) (fun a => M.o (boolU a)) st2 = _ from qz)
  obtain ⟨ey, rfl⟩ := M.o_inv qy
  obtain ⟨ez, rfl⟩ := M.o_inv qz2
  refine ha os as st γ σ H a st1 S qa _ fun x H1 as1 g1 S1 px => hb os as1 st1 γ σ H1 b _ S1 qb _ fun y' H2 as2 g2 S2 py => ?_
  refine hf os as2 H2 a b y x y' S2.ok (rd_go g2 px) py ey _ fun v H3 e3 p3 => ⟨z, rd_bl (F := F) (os := os) (as := as2) (H := H3) ez (rd_of_im p3), ?_⟩
  have g3 := (g1.trans g2).trans (Go.of_ex (as := as2) e3)
  cases z with
  | false => cases q; exact k _ H3 as2 g3 (S2.ex e3) rfl
  | true =>
    obtain ⟨c', st5, qc, q⟩ := M.bind_inv q
    obtain ⟨ec, rfl⟩ := M.o_inv q
    refine hc os as2 _ γ σ H3 c' _ (S2.ex e3) qc _ fun u H4 as4 g4 S4 pu => ?_
    exact hg os as4 H4 b c' c y' u S4.ok (rd_go g4 (rd_go (Go.of_ex e3) py)) pu ec QQ fun v H5 e5 p5 => k v H5 as4 ((g3.trans g4).trans (Go.of_ex e5)) (S4.ex e5) p5
/-! arguments, tuples, lists, slices -/
theorem ea_nil : EvAW F tNil δ nilA := fun os as st γ σ H us st' S q QQ k => by cases q; exact k [] H as (Go.refl _ _) S rfl
theorem ea_cons {tr : TA} {wr : M (List U)} (ha : EvW F ta δ wa) (hr : EvAW F tr δ wr) : EvAW F (tCons ta tr) δ (consA wa wr) := fun os as st γ σ H us st' S q QQ k => by
  obtain ⟨a, st1, qa, q⟩ := M.bind_inv q
  obtain ⟨r, st2, qr, q⟩ := M.bind_inv q
  cases q
  exact ha os as st γ σ H a _ S qa _ fun x H1 as1 g1 S1 px => hr os as1 st1 γ σ H1 r _ S1 qr _ fun vs H2 as2 g2 S2 pv => k (x :: vs) H2 as2 (g1.trans g2) S2 ⟨x, vs, rfl, im_go g2 px, pv⟩
theorem er_nil : EvAR F tNil δ nilA := fun os as st γ σ H us st' S q QQ k => by cases q; exact k [] H as (Go.refl _ _) S rfl
theorem er_cons {tr : TA} {wr : M (List U)} (ha : EvR F ta δ wa) (hr : EvAR F tr δ wr) : EvAR F (tCons ta tr) δ (consA wa wr) := fun os as st γ σ H us st' S q QQ k => by
  obtain ⟨a, st1, qa, q⟩ := M.bind_inv q
  obtain ⟨r, st2, qr, q⟩ := M.bind_inv q
  cases q
  exact ha os as st γ σ H a _ S qa _ fun x H1 as1 g1 S1 px => hr os as1 st1 γ σ H1 r _ S1 qr _ fun vs H2 as2 g2 S2 pv => k (x :: vs) H2 as2 (g1.trans g2) S2 ⟨x, vs, rfl, rd_go g2 px, pv⟩
theorem ev_tup {t : TA} {wl : M (List U)} (h : EvAW F t δ wl) : EvW F (tTup t) δ (tupW wl) := fun os as st γ σ H c st' S q QQ k => by
  obtain ⟨us, st1, qa, q⟩ := M.bind_inv q
  obtain ⟨e, rfl⟩ := M.o_inv q
  by_cases hl : us.length ≤ sizeLine
  · rw [if_pos hl] at e
    cases e
    exact h os as st γ σ H us _ S qa _ fun vs H1 as1 g1 S1 pv => ⟨by rw [imAll_len pv]; exact hl, fun p hp => k _ _ as1 (g1.trans (Go.of_ex (Ex.new hp))) (S1.ex (Ex.new hp)) ⟨p, vs, rfl, upd_same, imAll_st (RB.of_ex (Ex.new hp)) _ _ pv⟩⟩
  · rw [if_neg hl] at e; cases e
theorem flo_cons {os : Os} {p : Nat × List Addr} : flo (p :: os) = p.2 ++ flo os := rfl
theorem ban_cons {os : Os} {as : SA} {k : Nat} {A : List Addr} {a : Addr} : ban F ((k, A) :: os) as a ↔ a ∈ A ∨ ban F os as a := by
  unfold ban
  rw [flo_cons, List.mem_append]
  constructor
  · rintro (h | (h | h) | h)
    · exact .inr (.inl h)
    · exact .inl h
    · exact .inr (.inr (.inl h))
    · exact .inr (.inr (.inr h))
  · rintro (h | h | h | h)
    · exact .inr (.inl (.inl h))
    · exact .inl h
    · exact .inr (.inl (.inr h))
    · exact .inr (.inr h)
theorem sub_cons {os : Os} {as : SA} {k : Nat} {A : List Addr} {H : Hp} (hA : ∀ a ∈ A, H a = none) : ∀ a, H a ≠ none → ban F ((k, A) :: os) as a → ban F os as a := fun a n b => (ban_cons.mp b).elim (fun z => absurd (hA a z) n) id
/-- a new address in the ban -/
theorem SDo.grow {os : Os} {as : SA} {st : Sto} {γ : List (U × V)} {H H' : Hp} {σ : L2.St} {k : Nat} {p : Addr} (S : SDo F os as st γ H σ δ) (hk : k ∉ os.map (·.1)) (hp : H p = none) (e : Ex H H') (hp' : H' p ≠ none) : SDo F ((k, [p]) :: os) as st γ H' σ δ := by
  have hA : ∀ a ∈ [p], H a = none := fun a m => by rw [List.mem_singleton] at m; rw [m]; exact hp
  have sb := sub_cons (F := F) (os := os) (as := as) (k := k) hA
  have up : ∀ u v, im F.G (rts as) (ban F os as) u v H → im F.G (rts as) (ban F ((k, [p]) :: os) as) u v H' := fun u v h => im_st (RB.of_ex e) _ _ (im_sub sb _ _ h)
  have tp : ∀ a xs, H a = some (.tup xs) → H' a = some (.tup xs) := fun a xs h => e _ _ h
  have kp : ∀ a, H a ≠ none → H' a = H a := fun a n => by
    cases q : H a with
    | none => exact absurd q n
    | some o => exact e a o q
  refine ⟨fun q m => up _ _ (S.gh q m), S.rel.trans (Go.of_ex e), fun a b => ?_, ?_, List.nodup_cons.mpr ⟨hk, S.ix⟩, fun a m => ?_, fun a z => ?_, StOk.mono up tp (fun a m => kp a (S.ok a (.inr (.inr m)))) S.sto, S.len, fun i x e1 => ?_⟩
  · rcases ban_cons.mp b with z | z
    · rw [List.mem_singleton] at z; rw [z]; exact hp'
    · rw [kp a (S.ok a z)]; exact S.ok a z
  · rw [flo_cons]
    show ([p] ++ flo os ++ fl as).Nodup
    rw [List.append_assoc]
    refine List.nodup_append.mpr ⟨by simp, S.nd, fun a m b q e => ?_⟩
    rw [List.mem_singleton] at m
    subst m e
    exact S.ok _ ((List.mem_append.mp q).elim (fun z => .inr (.inl z)) fun z => .inr (.inr z)) hp
  · rcases List.mem_append.mp (show a ∈ [p] ++ flo os from m) with z | z
    · rw [List.mem_singleton] at z; rw [z]; exact S.rel.fresh hp
    · exact S.new a z
  · rcases z with z | z
    · rcases List.mem_append.mp (show a ∈ [p] ++ flo os from z) with z | z
      · rw [List.mem_singleton] at z; rw [z]; exact fun b => S.ok p (.inl b) hp
      · exact S.nb a (.inl z)
    · exact S.nb a (.inr z)
  · obtain ⟨v, h1, h2⟩ := S.at_ i x e1
    refine ⟨v, h1, ?_⟩
    match x, h2 with
    | .im u, h2 => exact up _ _ h2
    | .raw _, h2 => exact h2
    | .own sh u, ⟨A, m, h2⟩ => exact ⟨A, List.mem_cons_of_mem _ m, own_mono up tp _ _ _ _ (fun a z => kp a (S.ok a (.inr (.inl (mem_flo m z))))) h2⟩
theorem en_lst {t : TA} {wl : M (List U)} (h : EvAW F t δ wl) : EvN F (.lst .leaf) (tLst t) δ (lstW wl) := fun os as st γ σ H c st' S q QQ k => by
  obtain ⟨us, st1, qa, q⟩ := M.bind_inv q
  obtain ⟨e, rfl⟩ := M.o_inv q
  by_cases hl : us.length ≤ sizeLine
  · rw [if_pos hl] at e
    cases e
    refine h os as st γ σ H us _ S qa _ fun vs H1 as1 g1 S1 pv => ⟨by rw [imAll_len pv]; exact hl, fun p hp => k _ _ as1 [p] (g1.trans (Go.of_ex (Ex.new hp))) (fun k hk => S1.grow hk hp (Ex.new hp) (by rw [upd_same]; exact fun z => nomatch z)) ?_ fun a m => ?_⟩
    · refine own_lst.mpr ⟨p, vs, rfl, rfl, upd_same, imAll_st (RB.of_ex (Ex.new hp)) _ _ (imAll_sub (sub_cons fun a m => ?_) _ _ pv)⟩
      rw [List.mem_singleton] at m; rw [m]; exact hp
    · rw [List.mem_singleton] at m; rw [m]; exact g1.fresh hp
  · rw [if_neg hl] at e; cases e
theorem own_im {B : Bn} {G : Cxt} {rs : List Addr} {H : Hp} : ∀ (s : Sh) (u : U) (v : V) (A : List Addr), (∀ a ∈ A, ¬ B a) → ownD G rs B s u v H A → im G rs B u v H := by
  have key : ∀ (P : Nat → U → V → Hp → List Addr → Prop) (us : List U) (n : Nat) (vs : List V) (A : List Addr), (∀ n u v A1, (∀ a ∈ A1, a ∈ A) → P n u v H A1 → im G rs B u v H) → ownZ P n us vs H A → imAll G rs B us vs H := by
    intro P us
    induction us with
    | nil => intro n vs A _ h; exact h.1
    | cons u us ih =>
      rintro n vs A f ⟨v, r, A1, A2, e1, e2, h1, h2⟩
      exact ⟨v, r, e1, f n u v A1 (fun a m => by rw [e2]; exact List.mem_append_left _ m) h1, ih (n + 1) r A2 (fun n u v A3 s p => f n u v A3 (fun a m => by rw [e2]; exact List.mem_append_right _ (s a m)) p) h2⟩
  intro s
  induction s with
  | leaf => intro u v A _ h; exact h.2
  | lst s ih =>
    intro u v A nb h
    cases u <;> first | exact h.elim | skip
    obtain ⟨a, vs, A', e1, e2, h1, q⟩ := h
    exact ⟨a, vs, e1, nb a (by rw [e2]; exact List.mem_cons_self), h1, key _ _ _ _ _ (fun n u v A1 m p => ih u v A1 (fun a z => nb a (by rw [e2]; exact List.mem_cons_of_mem _ (m a z))) p) q⟩
  | dct s ih =>
    intro u v A nb h
    cases u <;> first | exact h.elim | skip
    all_goals
      obtain ⟨a, vs, A', e1, e2, h1, l, q⟩ := h
      exact ⟨a, vs, e1, nb a (by rw [e2]; exact List.mem_cons_self), .inl h1, l, key _ _ _ _ _ (fun n u v A1 m p => ih u v A1 (fun a z => nb a (by rw [e2]; exact List.mem_cons_of_mem _ (m a z))) p) q⟩
  | tup f ih =>
    intro u v A nb h
    cases u <;> first | exact h.elim | skip
    obtain ⟨a, vs, e1, h1, q⟩ := h
    exact ⟨a, vs, e1, h1, key _ _ _ _ _ (fun n u v A1 m p => ih n u v A1 (fun a z => nb a (m a z)) p) q⟩
  | obj f ih =>
    intro u v A nb h
    cases u <;> first | exact h.elim | skip
    obtain ⟨a, dx, vs, A', e1, e2, h1, l, q⟩ := h
    exact ⟨a, dx, vs, e1, nb a (by rw [e2]; exact List.mem_cons_self), h1, l, key _ _ _ _ _ (fun n u v A1 m p => ih _ u v A1 (fun a z => nb a (by rw [e2]; exact List.mem_cons_of_mem _ (m a z))) p) q⟩
theorem nodup_fresh (l : List Nat) (n : Nat) : ∃ k, k ∉ l ∧ n ≤ k := by
  have key : ∀ l : List Nat, ∃ m, ∀ x ∈ l, x < m := by
    intro l
    induction l with
    | nil => exact ⟨0, fun _ h => nomatch h⟩
    | cons a l ih =>
      obtain ⟨m, h⟩ := ih
      refine ⟨max m (a + 1), fun x hx => ?_⟩
      rcases List.mem_cons.mp hx with rfl | hx
      · omega
      · have := h x hx; omega
  obtain ⟨m, h⟩ := key l
  refine ⟨max m n, fun z => ?_, by omega⟩
  have := h _ z
  omega
/-- it is given away -/
theorem SDo.ungrow {os : Os} {as : SA} {st : Sto} {γ : List (U × V)} {H : Hp} {σ : L2.St} {k : Nat} {A : List Addr} (S : SDo F ((k, A) :: os) as st γ H σ δ) (hk : δ.length ≤ k) : SDo F os as st γ H σ δ := by
  have sb : ∀ a, H a ≠ none → ban F os as a → ban F ((k, A) :: os) as a := fun a _ b => ban_cons.mpr (.inr b)
  have up : ∀ u v, im F.G (rts as) (ban F ((k, A) :: os) as) u v H → im F.G (rts as) (ban F os as) u v H := fun u v h => im_sub sb _ _ h
  refine ⟨fun q m => up _ _ (S.gh q m), S.rel, fun a b => S.ok a (ban_cons.mpr (.inr b)), (List.nodup_append.mp (show (A ++ (flo os ++ fl as)).Nodup by rw [← List.append_assoc]; exact S.nd)).2.1, (List.nodup_cons.mp S.ix).2, fun a m => S.new a (List.mem_append_right A m), fun a z => S.nb a (z.imp (fun m => List.mem_append_right A m) id), StOk.mono up (fun _ _ h => h) (fun _ _ => rfl) S.sto, S.len, fun i x e1 => ?_⟩
  obtain ⟨v, h1, h2⟩ := S.at_ i x e1
  refine ⟨v, h1, ?_⟩
  match x, h2 with
  | .im u, h2 => exact up _ _ h2
  | .raw _, h2 => exact h2
  | .own sh u, ⟨A', m, h2⟩ =>
    refine ⟨A', ?_, own_mono up (fun _ _ h => h) _ _ _ _ (fun _ _ => rfl) h2⟩
    rcases List.mem_cons.mp m with e | m
    · have := getElem?_lt e1
      have : i = k := (Prod.mk.inj e).1
      omega
    · exact m
theorem EvN.ew {s : Sh} (h : EvN F s te δ w) : EvW F te δ w := fun os as st γ σ H a st' S q QQ k => h os as st γ σ H a st' S q QQ fun v H' as' A g S' p n => by
  obtain ⟨j, hj, hl⟩ := nodup_fresh (os.map (·.1)) δ.length
  have S1 := S' j hj
  have nb : ∀ a ∈ A, ¬ ban F os as' a := fun a m b => by
    rcases b with b | b | b
    · exact S1.nb a (.inl (List.mem_append_left _ m)) b
    · exact (List.nodup_append.mp (show (A ++ (flo os ++ fl as')).Nodup by rw [← List.append_assoc]; exact S1.nd)).2.2 a m a (List.mem_append_left _ b) rfl
    · exact (List.nodup_append.mp (show (A ++ (flo os ++ fl as')).Nodup by rw [← List.append_assoc]; exact S1.nd)).2.2 a m a (List.mem_append_right _ b) rfl
  exact k v H' as' g (S1.ungrow hl) (own_im s _ _ A nb (own_mono (fun u v h => im_sub (fun a _ b => ban_cons.mpr (.inr b)) u v h) (fun _ _ h => h) _ _ _ _ (fun _ _ => rfl) p))
theorem eo_none : EvO F tNoPart δ noP := fun os as st γ σ H c st' S q QQ k => by cases q; exact k H as (Go.refl _ _) S
theorem eo_some (ha : EvR F te δ wa) : EvO F (tPart te) δ (someP wa) := fun os as st γ σ H c st' S q QQ k => by
  obtain ⟨a, st1, qa, q⟩ := M.bind_inv q
  obtain ⟨e, rfl⟩ := M.o_inv q
  refine ha os as st γ σ H a _ S qa _ fun x H1 as1 g1 S1 px => ?_
  cases a <;> simp [intU] at e
  subst e
  exact ⟨_, px, k H1 as1 g1 S1⟩
theorem cutV_im {G : Cxt} {rs : List Addr} {B : Bn} {H : Hp} {us : List U} {vs : List V} {lo hi : Option Int} (h : imAll G rs B us vs H) : imAll G rs B (cut us lo hi) (cutV vs lo hi) H := by
  unfold EL.cut cutV
  rw [imAll_len h]
  exact imAll_take _ (imAll_drop _ h)
theorem ev_sl {tl th : TO} {wl wh : M (Option Int)} (ha : EvR F te δ wa) (hl : EvO F tl δ wl) (hh : EvO F th δ wh) : EvW F (tSl (rSlU F.G.K) te tl th) δ (slW wa wl wh) := fun os as st γ σ H c st' S q QQ k => by
  obtain ⟨a, st1, qa, q⟩ := M.bind_inv q
  obtain ⟨lo, st2, ql, q⟩ := M.bind_inv q
  obtain ⟨hi, st3, qh, q⟩ := M.bind_inv q
  obtain ⟨e, rfl⟩ := M.o_inv q
  refine ha os as st γ σ H a _ S qa _ fun x H1 as1 g1 S1 px => hl os as1 st1 γ σ H1 lo _ S1 ql _ fun H2 as2 g2 S2 => hh os as2 st2 γ σ H2 hi _ S2 qh _ fun H3 as3 g3 S3 => ?_
  have px := rd_go g3 (rd_go g2 px)
  have g := (g1.trans g2).trans g3
  cases a <;> simp only [slU] at e <;> first | cases e | skip
  · obtain ⟨a, vs, e, s, pv⟩ := px
    refine .inr ⟨a, vs, e, EL.sqT_of s, fun z => ?_, fun _ p hp => k _ _ as3 (g.trans (Go.of_ex (Ex.new hp))) (S3.ex (Ex.new hp)) ⟨p, _, rfl, upd_same, imAll_st (RB.of_ex (Ex.new hp)) _ _ (cutV_im pv)⟩⟩
    refine k _ H3 as3 g S3 ⟨a, vs, rfl, s, ?_⟩
    have := cutV_im (lo := lo) (hi := hi) pv
    unfold cutV at this
    rw [z.1, z.2, List.drop_zero, Nat.sub_zero, List.take_length] at this
    exact this
  · obtain ⟨a, vs, e, nb, s, pv⟩ := px
    exact .inl ⟨a, vs, e, .inl (.inl s), fun p hp => k _ _ as3 (g.trans (Go.of_ex (Ex.new hp))) (S3.ex (Ex.new hp)) ⟨p, _, rfl, S3.notban hp, upd_same, imAll_st (RB.of_ex (Ex.new hp)) _ _ (cutV_im pv)⟩⟩
  · obtain ⟨a, vs, e, s, pv⟩ := px
    exact .inl ⟨a, vs, e, s.sq, fun p hp => k _ _ as3 (g.trans (Go.of_ex (Ex.new hp))) (S3.ex (Ex.new hp)) ⟨p, _, rfl, S3.notban hp, upd_same, imAll_st (RB.of_ex (Ex.new hp)) _ _ (cutV_im pv)⟩⟩
end
end UX

set_option Elab.async false
set_option linter.all false
set_option maxRecDepth 100000
set_option maxHeartbeats 4000000
set_option autoImplicit false
namespace UX
open PySem PySem.Spec PyProof.Rows L2
open EL (Ex RB BOk Bn TK rAddU rMulU rSlU rEqU rNeU rLtU rLenQ rTupQ rListQ rReprD cut)
/-! ### what is one's own: dropped, taken -/
section
variable {F : Fr} {os : Os} {as as' : SA} {st : Sto} {γ : List (U × V)} {H H' : Hp} {σ : L2.St} {δ : Dl} {v : V} {u : U} {i : Nat}
theorem mem_filt {os : Os} {p : Nat × List Addr} (h : p ∈ os.filter fun q => decide (q.1 ≠ i)) : p ∈ os ∧ p.1 ≠ i := by
  have := List.mem_filter.mp h
  exact ⟨this.1, by simpa using this.2⟩
theorem flo_filt {a : Addr} (h : a ∈ flo (os.filter fun q => decide (q.1 ≠ i))) : a ∈ flo os := by
  obtain ⟨A, m, h⟩ := List.mem_flatten.mp h
  obtain ⟨p, mp, rfl⟩ := List.mem_map.mp m
  exact mem_flo (i := p.1) (A := p.2) (mem_filt mp).1 h
theorem sub_flat {α : Type} {l l' : List (List α)} (h : l'.Sublist l) : l'.flatten.Sublist l.flatten := by
  induction h with
  | slnil => exact List.Sublist.slnil
  | @cons l1 l2 a _ ih => rw [List.flatten_cons]; exact ih.trans (List.sublist_append_right _ _)
  | @cons_cons l1 l2 a _ ih => rw [List.flatten_cons, List.flatten_cons]; exact List.Sublist.append (List.Sublist.refl _) ih
/-- slot i owns nothing any more -/
theorem SDo.drop (s : SDo F os as st γ H σ δ) (i : Nat) : SDo F (os.filter fun q => decide (q.1 ≠ i)) as st γ H σ (δ.set i none) := by
  have sb : ∀ a, H a ≠ none → ban F (os.filter fun q => decide (q.1 ≠ i)) as a → ban F os as a := fun a _ b => b.elim .inl fun b => b.elim (fun z => .inr (.inl (flo_filt z))) fun z => .inr (.inr z)
  have sl : (flo (os.filter fun q => decide (q.1 ≠ i))).Sublist (flo os) := sub_flat ((List.filter_sublist (l := os)).map _)
  refine ⟨fun p m => im_sub sb _ _ (s.gh p m), s.rel, fun a b => s.ok a (b.elim .inl fun b => b.elim (fun z => .inr (.inl (flo_filt z))) fun z => .inr (.inr z)), (List.Sublist.append sl (List.Sublist.refl _)).nodup s.nd, ((List.filter_sublist (l := os)).map _).nodup s.ix, fun a m => s.new a (flo_filt m), fun a z => s.nb a (z.imp flo_filt id),
    StOk.mono (fun _ _ h => im_sub sb _ _ h) (fun _ _ h => h) (fun _ _ => rfl) s.sto, by rw [List.length_set]; exact s.len, fun j x e => ?_⟩
  by_cases hj : i = j
  · subst hj
    have hl : i < δ.length := by have := getElem?_lt e; rwa [List.length_set] at this
    rw [List.getElem?_set_self hl] at e; cases e
  · rw [List.getElem?_set_ne hj] at e
    obtain ⟨w, h1, h2⟩ := s.at_ j x e
    refine ⟨w, h1, ?_⟩
    match x, h2 with
    | .im u, h2 => exact im_sub sb _ _ h2
    | .raw _, h2 => exact h2
    | .own sh u, ⟨A, m, h2⟩ => exact ⟨A, List.mem_filter.mpr ⟨m, by simpa using fun z => hj z.symm⟩, own_mono (fun _ _ h => im_sub sb _ _ h) (fun _ _ h => h) _ _ _ _ (fun _ _ => rfl) h2⟩
/-- a new thing of one's own in slot i -/
theorem SDo.own {k : Nat} {A : List Addr} {sh : Sh} (S : SDo F ((k, A) :: os) as st γ H σ δ) (hk : δ.length ≤ k) (h : ownD F.G (rts as) (ban F ((0, A) :: os) as) sh u v H A) :
    SDo F ((i, A) :: os.filter fun q => decide (q.1 ≠ i)) as st γ H (σ.set i (some v)) (δ.set i (some (.own sh u))) := by
  have fs : (List.filter (fun q => decide (q.1 ≠ i)) os).Sublist os := List.filter_sublist
  have sl : (flo (os.filter fun q => decide (q.1 ≠ i))).Sublist (flo os) := sub_flat (fs.map _)
  have bs : ∀ a, ban F ((i, A) :: os.filter fun q => decide (q.1 ≠ i)) as a → ban F ((k, A) :: os) as a := fun a b => ban_cons.mpr ((ban_cons.mp b).imp id fun b => b.elim .inl fun b => b.elim (fun z => .inr (.inl (flo_filt z))) fun z => .inr (.inr z))
  have up : ∀ u v, im F.G (rts as) (ban F ((k, A) :: os) as) u v H → im F.G (rts as) (ban F ((i, A) :: os.filter fun q => decide (q.1 ≠ i)) as) u v H := fun u v h => im_sub (fun a _ b => bs a b) _ _ h
  have nd : (A ++ (flo os ++ fl as)).Nodup := by rw [← List.append_assoc]; exact S.nd
  refine ⟨fun q m => up _ _ (S.gh q m), S.rel, fun a b => S.ok a (bs a b), ?_, List.nodup_cons.mpr ⟨fun m => ?_, (fs.map _).nodup (List.nodup_cons.mp S.ix).2⟩, fun a m => ?_, fun a z => ?_, StOk.mono up (fun _ _ h => h) (fun _ _ => rfl) S.sto, by rw [List.length_set, List.length_set, S.len], fun j x e => ?_⟩
  · show (A ++ flo _ ++ fl as).Nodup
    rw [List.append_assoc]
    exact (List.Sublist.append (List.Sublist.refl _) (List.Sublist.append sl (List.Sublist.refl _))).nodup nd
  · obtain ⟨p, mp, e⟩ := List.mem_map.mp m
    exact (mem_filt mp).2 e
  · rcases List.mem_append.mp (show a ∈ A ++ flo _ from m) with z | z
    · exact S.new a (List.mem_append_left _ z)
    · exact S.new a (List.mem_append_right A (flo_filt z))
  · refine S.nb a (z.imp (fun z => ?_) id)
    rcases List.mem_append.mp (show a ∈ A ++ flo _ from z) with z | z
    · exact List.mem_append_left _ z
    · exact List.mem_append_right A (flo_filt z)
  · by_cases hj : i = j
    · subst hj
      have hl : i < δ.length := by have := getElem?_lt e; rwa [List.length_set] at this
      rw [List.getElem?_set_self hl] at e
      cases e
      exact ⟨v, List.getElem?_set_self (by rw [S.len]; exact hl), A, List.mem_cons_self, own_mono up (fun _ _ h => h) _ _ _ _ (fun _ _ => rfl) h⟩
    · rw [List.getElem?_set_ne hj] at e
      obtain ⟨w, h1, h2⟩ := S.at_ j x e
      refine ⟨w, by rw [List.getElem?_set_ne hj]; exact h1, ?_⟩
      match x, h2 with
      | .im u, h2 => exact up _ _ h2
      | .raw _, h2 => exact h2
      | .own sh u, ⟨A', m, h2⟩ =>
        refine ⟨A', List.mem_cons_of_mem _ (List.mem_filter.mpr ⟨?_, by simpa using fun z => hj z.symm⟩), own_mono up (fun _ _ h => h) _ _ _ _ (fun _ _ => rfl) h2⟩
        rcases List.mem_cons.mp m with z | m
        · have := getElem?_lt e
          have : j = k := (Prod.mk.inj z).1
          omega
        · exact m
end
end UX

set_option Elab.async false
set_option linter.all false
set_option maxRecDepth 100000
set_option maxHeartbeats 4000000
set_option autoImplicit false
namespace UX
open PySem PySem.Spec PyProof.Rows L2
open EL (Ex RB BOk Bn TK rAddU rMulU rSlU rEqU rNeU rLtU rLenQ rTupQ rListQ rReprD cut)
/-! ### statements -/
def seqO {S S' L : Type} (w : M (Out S L)) (k : S → M (Out S' L)) : M (Out S' L) := .bind w fun o => match o with
  | .nx s => k s
  | .rt u => .ret (.rt u)
  | .bk l => .ret (.bk l)
  | .ct l => .ret (.ct l)
def rtO {S L : Type} (w : M U) : M (Out S L) := .bind w fun u => .ret (.rt u)
def nxO {S L : Type} (s : S) : M (Out S L) := .ret (.nx s)
def fnM (w : M (Out Unit Unit)) : M U := .bind w fun o => match o with
  | .rt u => .ret u
  | .nx _ => .ret .non
  | _ => .fail
def un2 {α : Type} (u : U) (k : U → U → M α) : M α := match u with
  | .tup [a, b] => k a b
  | _ => .fail
def un3 {α : Type} (u : U) (k : U → U → U → M α) : M α := match u with
  | .tup [a, b, c] => k a b c
  | _ => .fail
def un6 {α : Type} (u : U) (k : U → U → U → U → U → U → M α) : M α := match u with
  | .tup [a, b, c, d, e, f] => k a b c d e f
  | _ => .fail
def forO {S L : Type} (f : U → S → M (Out S S)) : List U → S → M (Out S L)
  | [], s => nxO s
  | x :: xs, s => .bind (f x s) fun o => match o with
    | .nx s' => forO f xs s'
    | .ct s' => forO f xs s'
    | .bk s' => nxO s'
    | .rt u => .ret (.rt u)
def whileN {S L : Type} (c : S → M Bool) (b : S → M (Out S S)) : Nat → S → M (Out S L)
  | 0, _ => .fail
  | n + 1, s => .bind (c s) fun t => if t = true then .bind (b s) fun o => match o with
    | .nx s' => whileN c b n s'
    | .ct s' => whileN c b n s'
    | .bk s' => nxO s'
    | .rt u => .ret (.rt u)
    else nxO s
open Classical in
noncomputable def whileO {S L : Type} (c : S → M Bool) (b : S → M (Out S S)) (s : S) : M (Out S L) := fun st => if h : ∃ n r, whileN (L := L) c b n s st = some r then whileN c b h.choose s st else none
section
variable {S S' L : Type} {c : S → M Bool} {b : S → M (Out S S)}
theorem M.bind_some {α β : Type} {w : M α} {f : α → M β} {st : Sto} {r : Res β × Sto} (h : M.bind w f st = some r) : (∃ a st1, w st = some (.ok a, st1) ∧ f a st1 = some r) ∨ ∃ e st1, w st = some (.er e, st1) ∧ r = (.er e, st1) := by
  unfold M.bind at h
  cases e : w st with
  | none => rw [e] at h; cases h
  | some p =>
    obtain ⟨q, st1⟩ := p
    rw [e] at h
    cases q with
    | ok a => exact .inl ⟨a, st1, rfl, h⟩
    | er x => exact .inr ⟨x, st1, rfl, (Option.some.inj h).symm⟩
theorem M.bind_of {α β : Type} {w : M α} {f : α → M β} {st st1 : Sto} {a : α} (h : w st = some (.ok a, st1)) : M.bind w f st = f a st1 := by
  unfold M.bind; rw [h]
theorem M.bind_er {α β : Type} {w : M α} {f : α → M β} {st st1 : Sto} {e : U} (h : w st = some (.er e, st1)) : M.bind w f st = some (.er e, st1) := by
  unfold M.bind; rw [h]
theorem whileN_succ {n : Nat} : ∀ {s : S} {st : Sto} {r : Res (Out S L) × Sto}, whileN c b n s st = some r → whileN c b (n + 1) s st = some r := by
  induction n with
  | zero => intro s st r h; cases h
  | succ n ih =>
    intro s st r h
    rw [whileN] at h ⊢
    rcases M.bind_some h with ⟨t, st1, e1, h⟩ | ⟨e, st1, e1, rfl⟩
    · rw [M.bind_of e1]
      cases t with
      | false => exact h
      | true =>
        simp only [if_true] at h ⊢
        rcases M.bind_some h with ⟨o, st2, e2, h⟩ | ⟨e, st2, e2, rfl⟩
        · rw [M.bind_of e2]
          cases o with
          | nx s' => exact ih h
          | ct s' => exact ih h
          | bk s' => exact h
          | rt u => exact h
        · rw [M.bind_er e2]
    · rw [M.bind_er e1]
theorem whileN_le {n m : Nat} (hm : n ≤ m) {s : S} {st : Sto} {r : Res (Out S L) × Sto} (h : whileN c b n s st = some r) : whileN c b m s st = some r := by
  induction hm with
  | refl => exact h
  | step _ ih => exact whileN_succ ih
theorem whileO_of {n : Nat} {s : S} {st : Sto} {r : Res (Out S L) × Sto} (h : whileN c b n s st = some r) : whileO c b s st = some r := by
  unfold whileO
  have hx : ∃ n r, whileN (L := L) c b n s st = some r := ⟨n, r, h⟩
  rw [dif_pos hx]
  obtain ⟨r', h'⟩ := hx.choose_spec
  rcases Nat.le_total n hx.choose with z | z
  · exact whileN_le z h
  · rw [h']
    have := whileN_le z h'
    rw [h] at this
    exact this.symm
theorem whileO_inv {s : S} {st : Sto} {r : Res (Out S L) × Sto} (h : whileO c b s st = some r) : ∃ n, whileN c b n s st = some r := by
  unfold whileO at h
  split at h
  · exact ⟨_, h⟩
  · cases h
theorem whileO_eq {s : S} : whileO (L := L) c b s = .bind (c s) fun t => if t = true then .bind (b s) fun o => match o with
    | .nx s' => whileO c b s'
    | .ct s' => whileO c b s'
    | .bk s' => nxO s'
    | .rt u => .ret (.rt u)
    else nxO s := by
  funext st
  have key : ∀ r : Res (Out S L) × Sto, whileO c b s st = some r ↔ (M.bind (c s) fun t => if t = true then .bind (b s) fun o => match o with
    | .nx s' => whileO (L := L) c b s'
    | .ct s' => whileO c b s'
    | .bk s' => nxO s'
    | .rt u => .ret (.rt u)
    else nxO s) st = some r := by
    intro r
    constructor
    · intro h
      obtain ⟨n, h⟩ := whileO_inv h
      cases n with
      | zero => cases h
      | succ n =>
        rw [whileN] at h
        rcases M.bind_some h with ⟨t, st1, e1, h⟩ | ⟨e, st1, e1, rfl⟩
        · rw [M.bind_of e1]
          cases t with
          | false => exact h
          | true =>
            simp only [if_true] at h ⊢
            rcases M.bind_some h with ⟨o, st2, e2, h⟩ | ⟨e, st2, e2, rfl⟩
            · rw [M.bind_of e2]
              cases o with
              | nx s' => exact whileO_of h
              | ct s' => exact whileO_of h
              | bk s' => exact h
              | rt u => exact h
            · rw [M.bind_er e2]
        · rw [M.bind_er e1]
    · intro h
      have : ∃ n, whileN (L := L) c b (n + 1) s st = some r := by
        rcases M.bind_some h with ⟨t, st1, e1, h⟩ | ⟨e, st1, e1, rfl⟩
        · cases t with
          | false => exact ⟨0, by rw [whileN, M.bind_of e1]; exact h⟩
          | true =>
            simp only [if_true] at h
            rcases M.bind_some h with ⟨o, st2, e2, h⟩ | ⟨e, st2, e2, rfl⟩
            · cases o with
              | nx s' =>
                obtain ⟨n, h⟩ := whileO_inv h
                exact ⟨n, by rw [whileN, M.bind_of e1]; simp only [if_true]; rw [M.bind_of e2]; exact h⟩
              | ct s' =>
                obtain ⟨n, h⟩ := whileO_inv h
                exact ⟨n, by rw [whileN, M.bind_of e1]; simp only [if_true]; rw [M.bind_of e2]; exact h⟩
              | bk s' => exact ⟨0, by rw [whileN, M.bind_of e1]; simp only [if_true]; rw [M.bind_of e2]; exact h⟩
              | rt u => exact ⟨0, by rw [whileN, M.bind_of e1]; simp only [if_true]; rw [M.bind_of e2]; exact h⟩
            · exact ⟨0, by rw [whileN, M.bind_of e1]; simp only [if_true]; rw [M.bind_er e2]⟩
        · exact ⟨0, by rw [whileN, M.bind_er e1]⟩
      obtain ⟨n, h⟩ := this
      exact whileO_of h
  cases e : whileO (L := L) c b s st with
  | some r => exact ((key r).mp e).symm
  | none =>
    cases e2 : (M.bind (c s) fun t => if t = true then .bind (b s) fun o => match o with
    | .nx s' => whileO (L := L) c b s'
    | .ct s' => whileO c b s'
    | .bk s' => nxO s'
    | .rt u => .ret (.rt u)
    else nxO s) st with
    | none => rfl
    | some r => rw [(key r).mpr e2] at e; cases e
end
/-! ### what is returned -/
def EvF (F : Fr) : TE → Dl → M U → Prop := EvP F fun os as _ u v H => im F.G (rts as) (ban F [] as) u v H
def EvAF (F : Fr) : TA → Dl → M (List U) → Prop := EvA F fun os as us vs H => imAll F.G (rts as) (ban F [] as) us vs H
section
variable {F : Fr} {δ : Dl} {te ta : TE} {w wa : M U}
theorem im_nil {os : Os} {as : SA} {u : U} {v : V} {H : Hp} (h : im F.G (rts as) (ban F os as) u v H) : im F.G (rts as) (ban F [] as) u v H := im_sub (fun a _ b => b.elim .inl fun b => b.elim (fun z => nomatch z) fun z => .inr (.inr z)) _ _ h
theorem im_go0 {as as' : SA} {H H' : Hp} (g : Go as as' H H') {u : U} {v : V} (h : im F.G (rts as) (ban F [] as) u v H) : im F.G (rts as') (ban F [] as') u v H' := im_go g h
theorem EvW.f (h : EvW F te δ w) : EvF F te δ w := fun os as st γ σ H a st' S q QQ k => h os as st γ σ H a st' S q QQ fun v H' as' g S' p => k v H' as' g S' (im_nil p)
theorem ef_own {i : Nat} {s : Sh} {u : U} (h : δ[i]? = some (some (.own s u))) : EvF F (tVar i) δ (.ret u) := fun os as st γ σ H a st' S q QQ k => by
  cases q
  obtain ⟨v, e, A, m, p⟩ := S.get h
  refine ⟨v, e, k v H as (Go.refl _ _) S (own_im s _ _ A (fun a z b => ?_) (own_mono (fun u v h => im_nil h) (fun _ _ h => h) _ _ _ _ (fun _ _ => rfl) p))⟩
  rcases b with b | b | b
  · exact S.nb a (.inl (mem_flo m z)) b
  · cases b
  · exact (List.nodup_append.mp S.nd).2.2 a (mem_flo m z) a b rfl
theorem eaf_nil : EvAF F tNil δ nilA := fun os as st γ σ H us st' S q QQ k => by cases q; exact k [] H as (Go.refl _ _) S rfl
theorem imAll_go0 {as as' : SA} {H H' : Hp} (g : Go as as' H H') : ∀ {us : List U} {vs : List V}, imAll F.G (rts as) (ban F [] as) us vs H → imAll F.G (rts as') (ban F [] as') us vs H'
  | [], _, h => h
  | u :: us, _, ⟨v, w, e, h1, h2⟩ => ⟨v, w, e, im_go0 g h1, imAll_go0 g h2⟩
theorem eaf_cons {tr : TA} {wr : M (List U)} (ha : EvF F ta δ wa) (hr : EvAF F tr δ wr) : EvAF F (tCons ta tr) δ (consA wa wr) := fun os as st γ σ H us st' S q QQ k => by
  obtain ⟨a, st1, qa, q⟩ := M.bind_inv q
  obtain ⟨r, st2, qr, q⟩ := M.bind_inv q
  cases q
  exact ha os as st γ σ H a _ S qa _ fun x H1 as1 g1 S1 px => hr os as1 st1 γ σ H1 r _ S1 qr _ fun vs H2 as2 g2 S2 pv => k (x :: vs) H2 as2 (g1.trans g2) S2 ⟨x, vs, rfl, im_go0 g2 px, pv⟩
theorem ef_tup {t : TA} {wl : M (List U)} (h : EvAF F t δ wl) : EvF F (tTup t) δ (tupW wl) := fun os as st γ σ H c st' S q QQ k => by
  obtain ⟨us, st1, qa, q⟩ := M.bind_inv q
  obtain ⟨e, rfl⟩ := M.o_inv q
  by_cases hl : us.length ≤ sizeLine
  · rw [if_pos hl] at e
    cases e
    exact h os as st γ σ H us _ S qa _ fun vs H1 as1 g1 S1 pv => ⟨by rw [imAll_len pv]; exact hl, fun p hp => k _ _ as1 (g1.trans (Go.of_ex (Ex.new hp))) (S1.ex (Ex.new hp)) ⟨p, vs, rfl, upd_same, imAll_st (RB.of_ex (Ex.new hp)) _ _ pv⟩⟩
  · rw [if_neg hl] at e; cases e
theorem ef_if {tt : TT} {wt : M Bool} {tb : TE} {wb : M U} (h : EvT F tt δ wt) (ha : EvF F ta δ wa) (hb : EvF F tb δ wb) : EvF F (tIf tt ta tb) δ (iteW wt wa wb) := evp_if h ha hb fun _ _ _ _ _ _ _ _ p => p
theorem SDo.rt {os : Os} {as : SA} {st : Sto} {γ : List (U × V)} {H : Hp} {σ : L2.St} {u : U} {v : V} (S : SDo F os as st γ H σ δ) (h : im F.G (rts as) (ban F [] as) u v H) : Rt F as st H u v :=
  ⟨S.rel, fun a b => S.ok a (b.elim .inl fun b => b.elim (fun z => nomatch z) fun z => .inr (.inr z)), (List.nodup_append.mp S.nd).2.1, fun a m => S.nb a (.inr m), StOk.mono (fun _ _ h => im_nil h) (fun _ _ h => h) (fun _ _ => rfl) S.sto, h⟩
end
/-! ### blocks -/
section
variable {F : Fr} {S S1 L : Type} {δ : Dl} {te ta tb : TE} {tt : TT} {w wa wb : M U} {wt : M Bool} {t t1 t2 u1 : TS} {δn : S → Dl} {δ1 : S1 → Dl} {δl : L → Dl}
theorem blk_last {wo : M (Out S L)} (h : Blk F (tSeq t tNext) δ wo δn δl) : Blk F t δ wo δn δl := h
theorem blk_end {s : S} (h : Weak δ (δn s)) : Blk F tNext δ (nxO s) δn δl := fun D os as st γ σ H o st' Q q P => by
  cases q; exact P os as σ H (Q.weak h)
theorem blk_weak {δ' : Dl} {wo : M (Out S L)} (h : Blk F t δ' wo δn δl) (k : Weak δ δ') : Blk F t δ wo δn δl := fun D os as st γ σ H o st' Q q P => h D os as st γ σ H o st' (Q.weak k) q P
theorem blk_bk {l : L} (h : Weak δ (δl l)) : Blk F tBreak δ (.ret (.bk l) : M (Out S L)) δn δl := fun D os as st γ σ H o st' Q q P => by
  cases q; exact P os as σ H (Q.weak h)
theorem blk_ct {l : L} (h : Weak δ (δl l)) : Blk F tCont δ (.ret (.ct l) : M (Out S L)) δn δl := fun D os as st γ σ H o st' Q q P => by
  cases q; exact P os as σ H (Q.weak h)
theorem blk_ret (h : EvF F te δ w) : Blk F (tRet te) δ (rtO w : M (Out S L)) δn δl := fun D os as st γ σ H o st' Q q P => by
  obtain ⟨a, st1, qa, q⟩ := M.bind_inv q
  cases q
  exact h os as st γ σ H a _ Q qa _ fun v H1 as1 g1 S1 p => P as1 v H1 (S1.rt p)
theorem blk_retN : Blk F tRetN δ (.ret (.rt .non) : M (Out S L)) δn δl := fun D os as st γ σ H o st' Q q P => by
  cases q
  exact P as _ H (Q.rt rfl)
theorem blk_seq {w1 : M (Out S1 L)} {w2 : S1 → M (Out S L)} (h1 : Blk F t1 δ w1 δ1 δl) (h2 : ∀ s, Blk F t2 (δ1 s) (w2 s) δn δl) : Blk F (tSeq t1 t2) δ (seqO w1 w2) δn δl := fun D os as st γ σ H o st' Q q P => by
  obtain ⟨o1, st1, q1, q⟩ := M.bind_inv q
  refine h1 _ os as st γ σ H o1 st1 Q q1 ?_
  cases o1 with
  | nx s => exact fun os2 as2 σ2 H2 S2 => h2 s D os2 as2 st1 γ σ2 H2 o st' S2 q P
  | rt u => cases q; exact P
  | bk l => cases q; exact P
  | ct l => cases q; exact P
theorem blk_if {wo wu : M (Out S L)} (h : EvT F tt δ wt) (h1 : Blk F t1 δ wo δn δl) (h2 : Blk F t2 δ wu δn δl) : Blk F (tIfS tt t1 t2) δ (iteW wt wo wu) δn δl := fun D os as st γ σ H o st' Q q P => by
  obtain ⟨b, st1, qb, q⟩ := M.bind_inv q
  refine h os as st γ σ H b _ Q qb _ fun H1 as1 g1 S1 => ?_
  cases b with
  | true => exact h1 D os as1 st1 γ σ H1 o st' S1 q P
  | false => exact h2 D os as1 st1 γ σ H1 o st' S1 q P
/-- a statement that is not reached -/
theorem blk_never {e : U} : Blk F tNever δ (.raise e : M (Out S L)) δn δl := fun D os as st γ σ H o st' Q q P => by cases q
theorem blk_fail : Blk F t δ (.fail : M (Out S L)) δn δl := fun D os as st γ σ H o st' Q q P => by cases q
theorem blk_set {i : Nat} {k : U → M (Out S L)} (h : EvW F te δ w) (h2 : ∀ u, Blk F t2 (δ.set i (some (.im u))) (k u) δn δl) : Blk F (tSeq (tAsg te (gName i)) t2) δ (.bind w k) δn δl := fun D os as st γ σ H o st' Q q P => by
  obtain ⟨u, st1, qu, q⟩ := M.bind_inv q
  exact h os as st γ σ H u _ Q qu _ fun v H1 as1 g1 S1 p => h2 u D os as1 st1 γ _ H1 o st' (S1.set p) q P
/-- a new thing of one's own -/
theorem blk_own {i : Nat} {s : Sh} {k : U → M (Out S L)} (h : EvN F s te δ w) (h2 : ∀ u, Blk F t2 (δ.set i (some (.own s u))) (k u) δn δl) : Blk F (tSeq (tAsg te (gName i)) t2) δ (.bind w k) δn δl := fun D os as st γ σ H o st' Q q P => by
  obtain ⟨u, st1, qu, q⟩ := M.bind_inv q
  refine h os as st γ σ H u _ Q qu _ fun v H1 as1 A g1 S1 p n => ?_
  obtain ⟨j, hj, hl⟩ := nodup_fresh (os.map (·.1)) δ.length
  exact h2 u D _ as1 st1 γ _ H1 o st' ((S1 j hj).own hl p) q P
theorem blk_drop {k : U → M (Out S L)} (h : EvR F te δ w) (h2 : ∀ u, Blk F t2 δ (k u) δn δl) : Blk F (tSeq (tDrop te) t2) δ (.bind w k) δn δl := fun D os as st γ σ H o st' Q q P => by
  obtain ⟨u, st1, qu, q⟩ := M.bind_inv q
  exact h os as st γ σ H u _ Q qu _ fun v H1 as1 g1 S1 p => h2 u D os as1 st1 γ _ H1 o st' S1 q P
/-- what was one's own is now as all things are -/
theorem blk_frz {i : Nat} {s : Sh} {u : U} {wo : M (Out S L)} (h : δ[i]? = some (some (.own s u))) (h2 : Blk F t (δ.set i (some (.im u))) wo δn δl) : Blk F t δ wo δn δl := fun D os as st γ σ H o st' Q q P => by
  obtain ⟨v, e, A, m, p⟩ := Q.get h
  refine h2 D (os.filter fun q => decide (q.1 ≠ i)) as st γ σ H o st' ?_ q P
  have Q1 := Q.drop i
  have hp : im F.G (rts as) (ban F (os.filter fun q => decide (q.1 ≠ i)) as) u v H := by
    have sb : ∀ a, H a ≠ none → ban F (os.filter fun q => decide (q.1 ≠ i)) as a → ban F os as a := fun a _ b => b.elim .inl fun b => b.elim (fun z => .inr (.inl (flo_filt z))) fun z => .inr (.inr z)
    refine own_im s _ _ A (fun a z b => ?_) (own_mono (fun u v h => im_sub sb u v h) (fun _ _ h => h) _ _ _ _ (fun _ _ => rfl) p)
    rcases b with b | b | b
    · exact Q.nb a (.inl (mem_flo m z)) b
    · obtain ⟨A', m', z'⟩ := List.mem_flatten.mp b
      obtain ⟨q, mq, rfl⟩ := List.mem_map.mp m'
      obtain ⟨mq, ne⟩ := mem_filt mq
      have key : ∀ (l : Os), (flo l).Nodup → (i, A) ∈ l → q ∈ l → i = q.1 := by
        intro l
        induction l with
        | nil => intro _ m; cases m
        | cons r l ih =>
          intro nd m1 m2
          have nd' := List.nodup_append.mp (show (r.2 ++ flo l).Nodup from nd)
          rcases List.mem_cons.mp m1 with e1 | m1 <;> rcases List.mem_cons.mp m2 with e2 | m2
          · rw [e2, ← e1]
          · exact absurd rfl (nd'.2.2 a (by rw [← e1]; exact z) a (mem_flo (i := q.1) (A := q.2) m2 z'))
          · exact absurd rfl (nd'.2.2 a (by rw [← e2]; exact z') a (mem_flo m1 z))
          · exact ih nd'.2.1 m1 m2
      exact ne (key os (List.nodup_append.mp Q.nd).1 m mq).symm
    · exact (List.nodup_append.mp Q.nd).2.2 a (mem_flo m z) a b rfl
  have hs : σ.set i (some v) = σ := by
    apply List.ext_getElem?
    intro j
    by_cases z : i = j
    · subst z
      rw [List.getElem?_set_self (getElem?_lt e), e]
    · rw [List.getElem?_set_ne z]
  have := Q1.set (i := i) (x := .im u) hp
  rw [hs, List.set_set] at this
  exact this
end
end UX

set_option Elab.async false
set_option linter.all false
set_option maxRecDepth 100000
set_option maxHeartbeats 4000000
set_option autoImplicit false
namespace UX
open PySem PySem.Spec PyProof.Rows L2
open EL (Ex RB BOk Bn TK rAddU rMulU rSlU rEqU rNeU rLtU rLenQ rTupQ rListQ rReprD cut iSeqU)
/-! ### what is walked -/
/-- us, as long as what gh tells holds -/
structure WalkU (F : Fr) (J : It) (us : List U) (gh : List (U × V)) : Prop where
  goes : ∀ i os as st γ σ δ H, i < us.length → SDo F os as st (gh ++ γ) H σ δ → J.go i H
  stops : ∀ os as st γ σ δ H, SDo F os as st (gh ++ γ) H σ δ → J.stop us.length H
  yields : ∀ i os as st γ σ δ x H H' u, us[i]? = some u → SDo F os as st (gh ++ γ) H σ δ → J.yld i H x H' → Ex H H' ∧ im F.G (rts as) (ban F os as) u x H'
def Src (F : Fr) (wi : TI) (δ : Dl) (w : M (List U)) : Prop := ∀ os as st γ σ H us st', SDo F os as st γ H σ δ → w st = some (.ok us, st') → ∀ Q : It → Hp → Prop,
  (∀ J H' as' gh, Go as as' H H' → SDo F os as' st' (gh ++ γ) H' σ δ → WalkU F J us gh → Q J H') → wi σ H Q
section
variable {F : Fr} {os : Os} {as : SA} {st : Sto} {γ : List (U × V)} {H : Hp} {σ : L2.St} {δ : Dl}
theorem SDo.ghost (S : SDo F os as st γ H σ δ) {g : List (U × V)} (h : ∀ p ∈ g, im F.G (rts as) (ban F os as) p.1 p.2 H) : SDo F os as st (g ++ γ) H σ δ :=
  ⟨fun p m => (List.mem_append.mp m).elim (h p) (S.gh p), S.rel, S.ok, S.nd, S.ix, S.new, S.nb, S.sto, S.len, S.at_⟩
theorem SDo.unghost {g : List (U × V)} (S : SDo F os as st (g ++ γ) H σ δ) : SDo F os as st γ H σ δ :=
  ⟨fun p m => S.gh p (List.mem_append_right _ m), S.rel, S.ok, S.nd, S.ix, S.new, S.nb, S.sto, S.len, S.at_⟩
end
/-! ### the things of a walk -/
def itU : U → Option (List U)
  | .tup us => some us
  | .lst us => some us
  | .frl us => some us
  | _ => none
def rng1U : U → Option (List U)
  | .int n => if -(2 ^ 62) ≤ n ∧ n < 2 ^ 62 then some ((List.range n.toNat).map fun i => .int (i : Nat)) else none
  | _ => none
def rng2U : U → U → Option (List U)
  | .int a, .int b => if (-(2 ^ 62) ≤ a ∧ a < 2 ^ 62) ∧ (-(2 ^ 62) ≤ b ∧ b < 2 ^ 62) then some ((List.range (b - a).toNat).map fun i => .int (a + (i : Nat))) else none
  | _, _ => none
def itW (w : M U) : M (List U) := .bind w fun u => .o (itU u)
def rng1W (w : M U) : M (List U) := .bind w fun u => .o (rng1U u)
def rng2W (w w' : M U) : M (List U) := .bind w fun u => .bind w' fun u' => .o (rng2U u u')
section
variable {F : Fr} {δ : Dl} {te ta tb : TE} {w wa wb : M U}
theorem src_it (h : EvW F te δ w) : Src F (iSeqU F.G.K te) δ (itW w) := fun os as st γ σ H us st' S q Q k => by
  obtain ⟨u, st1, qu, q⟩ := M.bind_inv q
  obtain ⟨e, rfl⟩ := M.o_inv q
  have fin : ∀ st2 v H' as', Go as as' H H' → SDo F os as' st2 γ H' σ δ → im F.G (rts as') (ban F os as') u v H' → SDo F os as' st2 ([(u, v)] ++ γ) H' σ δ := fun st2 v H' as' g S' p => S'.ghost fun q m => by rw [List.mem_singleton] at m; rw [m]; exact p
  cases u <;> simp [itU] at e
  · subst e
    refine .inr (h os as st γ σ H _ _ S qu _ fun v H' as' g S' p => ?_)
    obtain ⟨a, vs, ev, hs, hv⟩ := id p
    refine ⟨a, ev, ⟨vs, EL.sqT_of hs⟩, k _ H' as' _ g (fin _ v H' as' g S' p) ⟨fun i os as st γ σ δ H hi S2 => ?_, fun os as st γ σ δ H S2 => ?_, fun i os as st γ σ δ x H H2 u e S2 y => ?_⟩⟩ <;> obtain ⟨a2, vs2, ev2, hs2, hv2⟩ := S2.gh _ List.mem_cons_self
    · rw [ev] at ev2; cases ev2
      exact walk_tup.goes i H (by rw [imAll_len hv2]; exact hi) (EL.sqT_of (K := F.G.K) hs2)
    · rw [ev] at ev2; cases ev2
      rw [← imAll_len hv2]
      exact walk_tup.stops H (EL.sqT_of (K := F.G.K) hs2)
    · rw [ev] at ev2; cases ev2
      obtain ⟨e1, e2⟩ := walk_tup.yields i H x H2 (by rw [imAll_len hv2]; exact getElem?_lt e) (EL.sqT_of (K := F.G.K) hs2) y
      subst e1
      refine ⟨Ex.refl _, ?_⟩
      obtain ⟨z, e3, e4⟩ := imAll_get hv2 e
      rw [e2] at e3; cases e3
      exact e4
  · subst e
    refine .inl (h os as st γ σ H _ _ S qu _ fun v H' as' g S' p => ?_)
    obtain ⟨a, vs, ev, nb, hs, hv⟩ := id p
    refine ⟨a, ev, ⟨vs, EL.sqL_of hs⟩, k _ H' as' _ g (fin _ v H' as' g S' p) ⟨fun i os as st γ σ δ H hi S2 => ?_, fun os as st γ σ δ H S2 => ?_, fun i os as st γ σ δ x H H2 u e S2 y => ?_⟩⟩ <;> obtain ⟨a2, vs2, ev2, nb2, hs2, hv2⟩ := S2.gh _ List.mem_cons_self
    · rw [ev] at ev2; cases ev2
      exact walk_list.goes i H (by rw [imAll_len hv2]; exact hi) (EL.sqL_of hs2)
    · rw [ev] at ev2; cases ev2
      rw [← imAll_len hv2]
      exact walk_list.stops H (EL.sqL_of hs2)
    · rw [ev] at ev2; cases ev2
      obtain ⟨e1, e2⟩ := walk_list.yields i H x H2 (by rw [imAll_len hv2]; exact getElem?_lt e) (EL.sqL_of hs2) y
      subst e1
      refine ⟨Ex.refl _, ?_⟩
      obtain ⟨z, e3, e4⟩ := imAll_get hv2 e
      rw [e2] at e3; cases e3
      exact e4
  · subst e
    refine .inl (h os as st γ σ H _ _ S qu _ fun v H' as' g S' p => ?_)
    obtain ⟨a, vs, ev, hs, hv⟩ := id p
    refine ⟨a, ev, ⟨vs, hs.sq⟩, k _ H' as' _ g (fin _ v H' as' g S' p) ⟨fun i os as st γ σ δ H hi S2 => ?_, fun os as st γ σ δ H S2 => ?_, fun i os as st γ σ δ x H H2 u e S2 y => ?_⟩⟩ <;> obtain ⟨a2, vs2, ev2, hs2, hv2⟩ := S2.gh _ List.mem_cons_self
    · rw [ev] at ev2; cases ev2
      exact walk_list.goes i H (by rw [imAll_len hv2]; exact hi) hs2.sq
    · rw [ev] at ev2; cases ev2
      rw [← imAll_len hv2]
      exact walk_list.stops H hs2.sq
    · rw [ev] at ev2; cases ev2
      obtain ⟨e1, e2⟩ := walk_list.yields i H x H2 (by rw [imAll_len hv2]; exact getElem?_lt e) hs2.sq y
      subst e1
      refine ⟨Ex.refl _, ?_⟩
      obtain ⟨z, e3, e4⟩ := imAll_get hv2 e
      rw [e2] at e3; cases e3
      exact e4
theorem src_list (h : EvW F te δ w) : Src F (iList F.G.K te) δ (.bind w fun u => .o (match u with | .lst us => some us | _ => none)) := fun os as st γ σ H us st' S q Q k => by
  obtain ⟨u, st1, qu, q⟩ := M.bind_inv q
  obtain ⟨e, rfl⟩ := M.o_inv q
  cases u <;> simp at e
  subst e
  refine h os as st γ σ H _ _ S qu _ fun v H' as' g S' p => ?_
  obtain ⟨a, vs, ev, nb, hs, hv⟩ := id p
  refine ⟨a, ev, ⟨vs, EL.sqL_of hs⟩, k _ H' as' [(_, v)] g (S'.ghost fun q m => by rw [List.mem_singleton] at m; rw [m]; exact p) ⟨fun i os as st γ σ δ H hi S2 => ?_, fun os as st γ σ δ H S2 => ?_, fun i os as st γ σ δ x H H2 u e S2 y => ?_⟩⟩ <;> obtain ⟨a2, vs2, ev2, nb2, hs2, hv2⟩ := S2.gh _ List.mem_cons_self
  · rw [ev] at ev2; cases ev2
    exact walk_list.goes i H (by rw [imAll_len hv2]; exact hi) (EL.sqL_of hs2)
  · rw [ev] at ev2; cases ev2
    rw [← imAll_len hv2]
    exact walk_list.stops H (EL.sqL_of hs2)
  · rw [ev] at ev2; cases ev2
    obtain ⟨e1, e2⟩ := walk_list.yields i H x H2 (by rw [imAll_len hv2]; exact getElem?_lt e) (EL.sqL_of hs2) y
    subst e1
    refine ⟨Ex.refl _, ?_⟩
    obtain ⟨z, e3, e4⟩ := imAll_get hv2 e
    rw [e2] at e3; cases e3
    exact e4
theorem rng_walk {lo : Int} {n : Nat} : WalkU F (Itr lo n) ((List.range n).map fun i => .int (lo + (i : Nat))) [] := by
  refine ⟨fun i os as st γ σ δ H hi S2 => walk_range.goes i H (by simpa using hi) trivial, fun os as st γ σ δ H S2 => ?_, fun i os as st γ σ δ x H H2 u e S2 y => ?_⟩
  · rw [List.length_map, List.length_range]; exact walk_range.stops H trivial
  · have hi : i < n := by have := getElem?_lt e; simpa using this
    obtain ⟨e1, e2⟩ := walk_range.yields i H x H2 hi trivial y
    subst e1 e2
    refine ⟨Ex.refl _, ?_⟩
    rw [List.getElem?_map, List.getElem?_range hi] at e
    cases e
    rfl
theorem src_range1 (h : EvR F ta δ w) : Src F (iRng1 (tCons ta tNil)) δ (rng1W w) := fun os as st γ σ H us st' S q Q k => by
  obtain ⟨u, st1, qu, q⟩ := M.bind_inv q
  obtain ⟨e, rfl⟩ := M.o_inv q
  cases u with
  | int n => ?_
  | _ => cases e
  simp only [rng1U] at e
  split at e
  case isFalse => cases e
  rename_i hc
  cases e
  refine h os as st γ σ H _ _ S qu _ fun v H' as' g S' p => ⟨n, by rw [show v = _ from p], by omega, by omega, k _ H' as' [] g S' ?_⟩
  have := rng_walk (F := F) (lo := 0) (n := n.toNat)
  simp only [Int.zero_add] at this
  exact this
theorem src_range2 (ha : EvR F ta δ wa) (hb : EvR F tb δ wb) : Src F (iRng2 (tCons ta (tCons tb tNil))) δ (rng2W wa wb) := fun os as st γ σ H us st' S q Q k => by
  obtain ⟨a, st1, qa, q⟩ := M.bind_inv q
  obtain ⟨b, st2, qb, q⟩ := M.bind_inv q
  obtain ⟨e, rfl⟩ := M.o_inv q
  cases a with
  | int lo => ?_
  | _ => cases e
  cases b with
  | int hi => ?_
  | _ => cases e
  simp only [rng2U] at e
  split at e
  case isFalse => cases e
  rename_i hc
  cases e
  exact ha os as st γ σ H _ _ S qa _ fun v H1 as1 g1 S1 p => hb os as1 st1 γ σ H1 _ _ S1 qb _ fun u H2 as2 g2 S2 p2 => ⟨lo, hi, by rw [show v = _ from p, show u = _ from p2], ⟨by omega, by omega, by omega, by omega⟩, k _ H2 as2 [] (g1.trans g2) S2 rng_walk⟩
end
/-! ### targets -/
def wipD (δ : Dl) : List Nat → Dl
  | [] => δ
  | v :: vs => (wipD δ vs).set v none
/-- u goes to the slots vs -/
def TgOk (F : Fr) (g : TG) (vs : List Nat) (δ : Dl) (u : U) (δ' : Dl) : Prop := wipD δ' vs = wipD δ vs ∧ ∀ os as st γ H σ v, SDo F os as st γ H σ δ → im F.G (rts as) (ban F os as) u v H → ∀ Q : L2.St → Hp → Prop, (∀ σ', wipe σ' vs = wipe σ vs → SDo F os as st γ H σ' δ' → Q σ' H) → g v σ H Q
section
variable {F : Fr} {δ : Dl} {u a b c : U}
theorem wipe_set (σ : L2.St) (i : Nat) (o : Option V) : ∀ vs : List Nat, i ∈ vs → wipe (σ.set i o) vs = wipe σ vs
  | [], h => nomatch h
  | v :: vs, h => by
    show (wipe (σ.set i o) vs).set v none = (wipe σ vs).set v none
    by_cases z : i ∈ vs
    · rw [wipe_set σ i o vs z]
    · have e : i = v := by
        rcases List.mem_cons.mp h with e | e
        · exact e
        · exact absurd e z
      subst e
      have : ∀ (σ : L2.St) (vs : List Nat), i ∉ vs → wipe (σ.set i o) vs = (wipe σ vs).set i o := by
        intro σ vs
        induction vs with
        | nil => intro _; rfl
        | cons w ws ih =>
          intro n
          show (wipe (σ.set i o) ws).set w none = ((wipe σ ws).set w none).set i o
          rw [ih fun m => n (List.mem_cons_of_mem _ m), List.set_comm _ _ (fun z => n (by rw [z]; exact List.mem_cons_self))]
      rw [this σ vs z, List.set_set]
theorem wipD_set (σ : Dl) (i : Nat) (o : Option SV) : ∀ vs : List Nat, i ∈ vs → wipD (σ.set i o) vs = wipD σ vs
  | [], h => nomatch h
  | v :: vs, h => by
    show (wipD (σ.set i o) vs).set v none = (wipD σ vs).set v none
    by_cases z : i ∈ vs
    · rw [wipD_set σ i o vs z]
    · have e : i = v := by
        rcases List.mem_cons.mp h with e | e
        · exact e
        · exact absurd e z
      subst e
      have : ∀ (σ : Dl) (vs : List Nat), i ∉ vs → wipD (σ.set i o) vs = (wipD σ vs).set i o := by
        intro σ vs
        induction vs with
        | nil => intro _; rfl
        | cons w ws ih =>
          intro n
          show (wipD (σ.set i o) ws).set w none = ((wipD σ ws).set w none).set i o
          rw [ih fun m => n (List.mem_cons_of_mem _ m), List.set_comm _ _ (fun z => n (by rw [z]; exact List.mem_cons_self))]
      rw [this σ vs z, List.set_set]
theorem tg_name {i : Nat} {vs : List Nat} (h : i ∈ vs) : TgOk F (gName i) vs δ u (δ.set i (some (.im u))) := ⟨wipD_set _ _ _ _ h, fun os as st γ H σ v S p Q k => k _ (wipe_set _ _ _ _ h) (S.set p)⟩
theorem tg_two {i j : Nat} {vs : List Nat} (hi : i ∈ vs) (hj : j ∈ vs) : TgOk F (gTup F.G.K 2 (gCons (gName i) (gCons (gName j) gNil))) vs δ (.tup [a, b]) ((δ.set i (some (.im a))).set j (some (.im b))) := ⟨by rw [wipD_set _ _ _ _ hj, wipD_set _ _ _ _ hi], fun os as st γ H σ v S ⟨p, xs, e, hs, v1, r1, e1, h1, v2, r2, e2, h2, e3⟩ Q k => by
  subst e e1 e2; cases (show r2 = [] from e3)
  exact ⟨p, _, rfl, EL.sqT_of hs, rfl, v1, _, rfl, v2, _, rfl, rfl, k _ (by rw [wipe_set _ _ _ _ hj, wipe_set _ _ _ _ hi]) ((S.set (x := .im a) h1).set (x := .im b) h2)⟩⟩
theorem tg_three {i j l : Nat} {vs : List Nat} (hi : i ∈ vs) (hj : j ∈ vs) (hl : l ∈ vs) : TgOk F (gTup F.G.K 3 (gCons (gName i) (gCons (gName j) (gCons (gName l) gNil)))) vs δ (.tup [a, b, c]) (((δ.set i (some (.im a))).set j (some (.im b))).set l (some (.im c))) := ⟨by rw [wipD_set _ _ _ _ hl, wipD_set _ _ _ _ hj, wipD_set _ _ _ _ hi], fun os as st γ H σ v S ⟨p, xs, e, hs, v1, r1, e1, h1, v2, r2, e2, h2, v3, r3, e3, h3, e4⟩ Q k => by
  subst e e1 e2 e3; cases (show r3 = [] from e4)
  exact ⟨p, _, rfl, EL.sqT_of hs, rfl, v1, _, rfl, v2, _, rfl, v3, _, rfl, rfl, k _ (by rw [wipe_set _ _ _ _ hl, wipe_set _ _ _ _ hj, wipe_set _ _ _ _ hi]) (((S.set (x := .im a) h1).set (x := .im b) h2).set (x := .im c) h3)⟩⟩
end
/-! ### loops -/
section
variable {F : Fr} {S L : Type} {δ : Dl} {wi : TI} {g : TG} {tb : TS} {wl : M (List U)} {δl : S → Dl} {δ2 : L → Dl}
theorem blk_for {vs : List Nat} {f : U → S → M (Out S S)} {s0 : S} (hs : Src F wi δ wl) (h0 : Weak δ (δl s0))
    (hb : ∀ u s st r, f u s st = some r → ∃ δ', TgOk F g vs (δl s) u δ' ∧ Blk F tb δ' (f u s) δl δl) : Blk F (tFor wi g tb) δ (.bind wl fun us => forO f us s0) δl δ2 := fun D os as st γ σ H o st' Q q P => by
  obtain ⟨us, st1, qs, q⟩ := M.bind_inv q
  refine hs os as st γ σ H us _ Q qs _ fun J H1 as1 gh g1 S1 W => ?_
  refine ⟨fun i m σ Hc => m = us.length - i ∧ i ≤ us.length ∧ ∃ os2 as2 st2 s, SDo F os2 as2 st2 (gh ++ γ) Hc σ (δl s) ∧ forO (L := L) f (us.drop i) s st2 = some (.ok o, st'), ⟨us.length, by simp, Nat.zero_le _, os, as1, st1, s0, S1.weak h0, by rw [List.drop_zero]; exact q⟩, ?_⟩
  rintro i m σ2 Hc ⟨rfl, hi, os2, as2, st2, s, S2, q2⟩
  by_cases hlt : i < us.length
  · right
    refine ⟨W.goes i os2 as2 st2 γ σ2 _ Hc hlt S2, ?_⟩
    have ed : us.drop i = us[i] :: us.drop (i + 1) := List.drop_eq_getElem_cons hlt
    rw [ed, forO] at q2
    obtain ⟨o1, st3, q3, q2⟩ := M.bind_inv q2
    obtain ⟨δ', tg, bk⟩ := hb us[i] s st2 _ q3
    refine ⟨fun σ' H' => ∃ m', m' < us.length - i ∧ m' = us.length - (i + 1) ∧ i + 1 ≤ us.length ∧ ∃ os2 as2 st2 s, SDo F os2 as2 st2 (gh ++ γ) H' σ' (δl s) ∧ forO (L := L) f (us.drop (i + 1)) s st2 = some (.ok o, st'), fun σ' H' ⟨m', h1, h2, h3⟩ => ⟨m', h1, h2, h3⟩, fun x H' y => ?_⟩
    obtain ⟨ex, px⟩ := W.yields i os2 as2 st2 γ σ2 _ x Hc H' us[i] (List.getElem?_eq_getElem hlt) S2 y
    refine tg.2 os2 as2 st2 (gh ++ γ) H' σ2 x (S2.ex ex) px _ fun σ3 _ S3 => bk _ os2 as2 st2 (gh ++ γ) σ3 H' o1 st3 S3 q3 ?_
    cases o1 with
    | nx s' => exact fun os4 as4 σ4 H4 S4 => ⟨us.length - (i + 1), by omega, rfl, hlt, os4, as4, st3, s', S4, q2⟩
    | ct s' => exact fun os4 as4 σ4 H4 S4 => ⟨us.length - (i + 1), by omega, rfl, hlt, os4, as4, st3, s', S4, q2⟩
    | bk s' =>
      cases q2
      exact fun os4 as4 σ4 H4 S4 => P os4 as4 σ4 H4 S4.unghost
    | rt u =>
      cases q2
      exact P
  · left
    have e : i = us.length := by omega
    subst e
    rw [List.drop_length] at q2
    cases q2
    exact ⟨W.stops os2 as2 _ γ σ2 _ Hc S2, P os2 as2 σ2 Hc S2.unghost⟩
theorem blk_while {tc : TT} {c : S → M Bool} {b : S → M (Out S S)} {s0 : S} (h0 : Weak δ (δl s0)) (hc : ∀ s, EvT F tc (δl s) (c s)) (hb : ∀ s, Blk F tb (δl s) (b s) δl δl) : Blk F (tWhile tc tb) δ (whileO c b s0) δl δ2 := fun D os as st γ σ H o st' Q q P => by
  obtain ⟨n, q⟩ := whileO_inv q
  refine ⟨fun m σ Hc => ∃ os2 as2 st2 s, SDo F os2 as2 st2 γ Hc σ (δl s) ∧ whileN (L := L) c b m s st2 = some (.ok o, st'), ⟨n, os, as, st, s0, Q.weak h0, q⟩, ?_⟩
  rintro m σ2 Hc ⟨os2, as2, st2, s, S2, q2⟩
  cases m with
  | zero => cases q2
  | succ m =>
    rw [whileN] at q2
    obtain ⟨t, st3, qt, q2⟩ := M.bind_inv q2
    refine hc s os2 as2 st2 γ σ2 Hc t _ S2 qt _ fun H3 as3 g3 S3 => ?_
    cases t with
    | false => cases q2; exact P os2 as3 σ2 H3 S3
    | true =>
      simp only [if_true] at q2 ⊢
      obtain ⟨o1, st4, q3, q2⟩ := M.bind_inv q2
      refine ⟨fun σ' H' => ∃ m', m' < m + 1 ∧ ∃ os2 as2 st2 s, SDo F os2 as2 st2 γ H' σ' (δl s) ∧ whileN (L := L) c b m' s st2 = some (.ok o, st'), fun σ' H' h => h, ?_⟩
      refine hb s _ os2 as3 st3 γ σ2 H3 o1 st4 S3 q3 ?_
      cases o1 with
      | nx s' => exact fun os4 as4 σ4 H4 S4 => ⟨m, Nat.lt_succ_self m, os4, as4, st4, s', S4, q2⟩
      | ct s' => exact fun os4 as4 σ4 H4 S4 => ⟨m, Nat.lt_succ_self m, os4, as4, st4, s', S4, q2⟩
      | bk s' =>
        cases q2
        exact fun os4 as4 σ4 H4 S4 => P os4 as4 σ4 H4 S4
      | rt u =>
        cases q2
        exact P
end
/-! ### unpacking -/
section
variable {F : Fr} {S L : Type} {δ : Dl} {te : TE} {w : M U} {t2 : TS} {δn : S → Dl} {δl : L → Dl}
theorem blk_tg {g : TG} {vs : List Nat} {k : U → M (Out S L)} (h : EvW F te δ w) (h2 : ∀ u st r, k u st = some r → ∃ δ', TgOk F g vs δ u δ' ∧ Blk F t2 δ' (k u) δn δl) : Blk F (tSeq (tAsg te g) t2) δ (.bind w k) δn δl := fun D os as st γ σ H o st' Q q P => by
  obtain ⟨u, st1, qu, q⟩ := M.bind_inv q
  refine h os as st γ σ H u _ Q qu _ fun v H1 as1 g1 S1 p => ?_
  obtain ⟨δ', tg, bk⟩ := h2 u st1 _ q
  exact tg.2 os as1 st1 γ H1 σ v S1 p _ fun σ' _ S2 => bk D os as1 st1 γ σ' H1 o st' S2 q P
/-- for patterns of two -/
theorem pat2 {α : Type} {P : Dl → M α → Prop} {i j : Nat} {vs : List Nat} (hi : i ∈ vs) (hj : j ∈ vs) {k : U → U → M α} (h : ∀ a b, P ((δ.set i (some (.im a))).set j (some (.im b))) (k a b)) : ∀ u st r, un2 u k st = some r → ∃ δ', TgOk F (gTup F.G.K 2 (gCons (gName i) (gCons (gName j) gNil))) vs δ u δ' ∧ P δ' (un2 u k) := by
  intro u st r e
  cases u <;> first | (cases e; done) | skip
  rename_i us
  match us, e with
  | [a, b], e => exact ⟨_, tg_two hi hj, h a b⟩
theorem pat3 {α : Type} {P : Dl → M α → Prop} {i j l : Nat} {vs : List Nat} (hi : i ∈ vs) (hj : j ∈ vs) (hl : l ∈ vs) {k : U → U → U → M α} (h : ∀ a b c, P (((δ.set i (some (.im a))).set j (some (.im b))).set l (some (.im c))) (k a b c)) : ∀ u st r, un3 u k st = some r → ∃ δ', TgOk F (gTup F.G.K 3 (gCons (gName i) (gCons (gName j) (gCons (gName l) gNil)))) vs δ u δ' ∧ P δ' (un3 u k) := by
  intro u st r e
  cases u <;> first | (cases e; done) | skip
  rename_i us
  match us, e with
  | [a, b, c], e => exact ⟨_, tg_three hi hj hl, h a b c⟩
theorem pat1 {α : Type} {P : Dl → M α → Prop} {i : Nat} {vs : List Nat} (hi : i ∈ vs) {k : U → M α} (h : ∀ a, P (δ.set i (some (.im a))) (k a)) : ∀ u st r, k u st = some r → ∃ δ', TgOk F (gName i) vs δ u δ' ∧ P δ' (k u) := fun u st r e => ⟨_, tg_name hi, h u⟩
end
end UX

set_option Elab.async false
set_option linter.all false
set_option maxRecDepth 100000
set_option maxHeartbeats 4000000
set_option autoImplicit false
namespace UX
open PySem PySem.Spec PyProof.Rows L2
open EL (Ex RB BOk Bn TK rAddU rMulU rSlU rEqU rNeU rLtU rLenQ rTupQ rListQ rReprD cut iSeqU)
/-! ### what is one's own is changed -/
def setOs (os : Os) (i : Nat) (A : List Addr) : Os := os.map fun p => if p.1 = i then (i, A) else p
section
variable {F : Fr} {os : Os} {as : SA} {st : Sto} {γ : List (U × V)} {H H' : Hp} {σ : L2.St} {δ : Dl} {i : Nat} {A A' : List Addr} {a : Addr}
theorem setOs_mem {p : Nat × List Addr} (h : p ∈ setOs os i A') : (p = (i, A') ∧ i ∈ os.map (·.1)) ∨ (p ∈ os ∧ p.1 ≠ i) := by
  obtain ⟨q, m, e⟩ := List.mem_map.mp h
  by_cases z : q.1 = i
  · rw [if_pos z] at e; exact .inl ⟨e.symm, List.mem_map.mpr ⟨q, m, z⟩⟩
  · rw [if_neg z] at e; subst e; exact .inr ⟨m, z⟩
theorem setOs_fst : (setOs os i A').map (·.1) = os.map (·.1) := by
  unfold setOs
  rw [List.map_map]
  apply List.map_congr_left
  intro p _
  show (if p.1 = i then (i, A') else p).1 = p.1
  split
  · rename_i h; exact h.symm
  · rfl
theorem setOs_flo {b : Addr} (h : b ∈ flo (setOs os i A')) : b ∈ A' ∨ b ∈ flo os := by
  obtain ⟨B, m, hb⟩ := List.mem_flatten.mp h
  obtain ⟨p, mp, rfl⟩ := List.mem_map.mp m
  rcases setOs_mem mp with ⟨e, _⟩ | ⟨m, _⟩
  · rw [e] at hb; exact .inl hb
  · exact .inr (mem_flo (i := p.1) (A := p.2) m hb)
theorem setOs_nodup (ix : (os.map (·.1)).Nodup) (m : (i, A) ∈ os) (nd : (flo os).Nodup) (nd' : A'.Nodup) (fr : ∀ b ∈ A', b ∈ A ∨ b ∉ flo os) : (flo (setOs os i A')).Nodup := by
  induction os with
  | nil => exact List.nodup_nil
  | cons p os ih =>
    have ix' := List.nodup_cons.mp (show (p.1 :: os.map (·.1)).Nodup from ix)
    have nd2 := List.nodup_append.mp (show (p.2 ++ flo os).Nodup from nd)
    by_cases z : p.1 = i
    · have e1 : setOs (p :: os) i A' = (i, A') :: os := by
        unfold setOs
        rw [List.map_cons, if_pos z]
        congr 1
        have : ∀ q ∈ os, (if q.1 = i then (i, A') else q) = q := fun q mq => if_neg fun e => ix'.1 (by rw [z, ← e]; exact List.mem_map_of_mem mq)
        rw [List.map_congr_left this, List.map_id']
      have e2 : (i, A) = p := by
        rcases List.mem_cons.mp m with e | m
        · exact e
        · exact absurd (List.mem_map_of_mem (f := (·.1)) m) (by rw [← z]; exact ix'.1)
      rw [e1]
      show (A' ++ flo os).Nodup
      refine List.nodup_append.mpr ⟨nd', nd2.2.1, fun b mb c mc e => ?_⟩
      subst e
      rcases fr b mb with q | q
      · exact nd2.2.2 b (by rw [← e2]; exact q) b mc rfl
      · exact q (List.mem_append_right _ mc)
    · have e1 : setOs (p :: os) i A' = p :: setOs os i A' := by
        unfold setOs
        rw [List.map_cons, if_neg z]
      have m' : (i, A) ∈ os := by
        rcases List.mem_cons.mp m with e | m
        · exact absurd (by rw [← e]) z
        · exact m
      rw [e1]
      show (p.2 ++ flo (setOs os i A')).Nodup
      refine List.nodup_append.mpr ⟨nd2.1, ih ix'.2 m' nd2.2.1 fun b mb => (fr b mb).imp id fun q w => q (List.mem_append_right _ w), fun b mb c mc e => ?_⟩
      subst e
      rcases setOs_flo mc with q | q
      · rcases fr b q with w | w
        · exact nd2.2.2 b mb b (mem_flo m' w) rfl
        · exact w (List.mem_append_left _ mb)
      · exact nd2.2.2 b mb b q rfl
/-- one thing of one's own is changed -/
structure Chg (F : Fr) (os : Os) (as : SA) (H H' : Hp) (i : Nat) (A A' : List Addr) (a : Addr) : Prop where
  m : (i, A) ∈ os
  ha : a ∈ A
  kp : ∀ b o, H b = some o → b ≠ a → H' b = some o
  al : H' a ≠ none
  hA : ∀ b ∈ A', b ∈ A ∨ H b = none
  nd : A'.Nodup
  al' : ∀ b ∈ A', H' b ≠ none
  nt : ∀ xs, H a ≠ some (.tup xs)
  nf : ∀ o u, H a ≠ some (.frz o u)
theorem Chg.rb (c : Chg F os as H H' i A A' a) : RB (ban F os as) H H' := by
  have hb : ban F os as a := .inr (.inl (mem_flo c.m c.ha))
  refine ⟨fun b o n e => c.kp b o e (fun z => n (z ▸ hb)), fun b xs e => c.kp b _ e fun z => c.nt xs (z ▸ e), fun b o u e => c.kp b _ e fun z => c.nf o u (z ▸ e), fun b _ n => ?_⟩
  by_cases z : b = a
  · rw [z]; exact c.al
  · cases e : H b with
    | none => exact absurd e n
    | some o => rw [c.kp b o e z]; exact fun q => nomatch q
theorem Chg.ban (c : Chg F os as H H' i A A' a) : ∀ b, H b ≠ none → UX.ban F (setOs os i A') as b → UX.ban F os as b := fun b n h => by
  rcases h with h | h | h
  · exact .inl h
  · rcases setOs_flo h with q | q
    · rcases c.hA b q with w | w
      · exact .inr (.inl (mem_flo c.m w))
      · exact absurd w n
    · exact .inr (.inl q)
  · exact .inr (.inr h)
theorem Chg.im (c : Chg F os as H H' i A A' a) {u : U} {v : V} (h : UX.im F.G (rts as) (UX.ban F os as) u v H) : UX.im F.G (rts as) (UX.ban F (setOs os i A') as) u v H' := by
  have h1 : UX.im F.G (rts as) (fun b => UX.ban F (setOs os i A') as b ∨ UX.ban F os as b) u v H := im_sub (fun b n z => z.elim (c.ban b n) id) _ _ h
  exact im_sub (fun b _ z => .inl z) _ _ (im_st (c.rb.sub fun _ z => .inr z) _ _ h1)
theorem Chg.imAll (c : Chg F os as H H' i A A' a) : ∀ {us : List U} {vs : List V}, UX.imAll F.G (rts as) (UX.ban F os as) us vs H → UX.imAll F.G (rts as) (UX.ban F (setOs os i A') as) us vs H'
  | [], _, h => h
  | u :: us, _, ⟨v, w, e, h1, h2⟩ => ⟨v, w, e, c.im h1, c.imAll h2⟩
theorem SDo.mut (S : SDo F os as st γ H σ δ) (c : Chg F os as H H' i A A' a) {x : Option SV} (hx : ∀ s, x = some s → ∃ sh u v, s = .own sh u ∧ σ[i]? = some (some v) ∧ ownD F.G (rts as) (ban F (setOs os i A') as) sh u v H' A') : SDo F (setOs os i A') as st γ H' σ (δ.set i x) := by
  have tp : ∀ b xs, H b = some (.tup xs) → H' b = some (.tup xs) := fun b xs h => c.rb.tup _ _ h
  have na : ∀ b, b ∈ fl as → b ≠ a := fun b m z => (List.nodup_append.mp S.nd).2.2 a (mem_flo c.m c.ha) b m z.symm
  have kq : ∀ b, ban F os as b → b ≠ a → H' b = H b := fun b hb n => by
    cases e : H b with
    | none => exact absurd e (S.ok b hb)
    | some o => exact c.kp b o e n
  have nbA : ∀ b ∈ A', ¬ F.B b := fun b m z => by
    rcases c.hA b m with w | w
    · exact S.nb b (.inl (mem_flo c.m w)) z
    · exact S.ok b (.inl z) w
  refine ⟨fun p m => c.im (S.gh p m), ?_, fun b hb => ?_, ?_, by rw [setOs_fst]; exact S.ix, fun b hb => ?_, fun b z => ?_, StOk.mono (fun _ _ h => c.im h) tp (fun b m => kq b (.inr (.inr m)) (na b m)) S.sto, by rw [List.length_set]; exact S.len, fun j s e => ?_⟩
  · refine ⟨⟨fun b o n e => ?_, fun b xs e => ?_, fun b o u e => ?_, fun b _ n => ?_⟩, S.rel.pre, S.rel.new⟩
    · exact c.kp b o (S.rel.rb.keep b o n e) fun z => by rw [z, S.new a (mem_flo c.m c.ha)] at e; cases e
    · exact c.kp b _ (S.rel.rb.tup b xs e) fun z => by rw [z, S.new a (mem_flo c.m c.ha)] at e; cases e
    · exact c.kp b _ (S.rel.rb.frz b o u e) fun z => by rw [z, S.new a (mem_flo c.m c.ha)] at e; cases e
    · exact rb_alive c.rb (S.rel.alive n)
  · rcases hb with hb | hb | hb
    · exact rb_alive c.rb (S.ok b (.inl hb))
    · rcases setOs_flo hb with q | q
      · exact c.al' b q
      · exact rb_alive c.rb (S.ok b (.inr (.inl q)))
    · exact rb_alive c.rb (S.ok b (.inr (.inr hb)))
  · have nd := List.nodup_append.mp S.nd
    refine List.nodup_append.mpr ⟨setOs_nodup S.ix c.m nd.1 c.nd fun b m => (c.hA b m).imp id fun w q => S.ok b (.inr (.inl q)) w, nd.2.1, fun b mb d md e => ?_⟩
    subst e
    rcases setOs_flo mb with q | q
    · rcases c.hA b q with w | w
      · exact nd.2.2 b (mem_flo c.m w) b md rfl
      · exact S.ok b (.inr (.inr md)) w
    · exact nd.2.2 b q b md rfl
  · rcases setOs_flo hb with q | q
    · rcases c.hA b q with w | w
      · exact S.new b (mem_flo c.m w)
      · exact S.rel.fresh w
    · exact S.new b q
  · rcases z with z | z
    · rcases setOs_flo z with q | q
      · exact nbA b q
      · exact S.nb b (.inl q)
    · exact S.nb b (.inr z)
  · by_cases hj : i = j
    · subst hj
      have hl : i < δ.length := by have := getElem?_lt e; rwa [List.length_set] at this
      rw [List.getElem?_set_self hl] at e
      obtain ⟨sh, u, v, rfl, h1, h2⟩ := hx s (Option.some.inj e)
      exact ⟨v, h1, A', List.mem_map.mpr ⟨(i, A), c.m, if_pos rfl⟩, h2⟩
    · rw [List.getElem?_set_ne hj] at e
      obtain ⟨w, h1, h2⟩ := S.at_ j s e
      refine ⟨w, h1, ?_⟩
      match s, h2 with
      | .im u, h2 => exact c.im h2
      | .raw _, h2 => exact h2
      | .own sh u, ⟨B, m, h2⟩ =>
        refine ⟨B, List.mem_map.mpr ⟨(j, B), m, if_neg fun z => hj z.symm⟩, own_mono (fun _ _ h => c.im h) tp _ _ _ _ (fun b mb => kq b (.inr (.inl (mem_flo m mb))) fun z => ?_) h2⟩
        have key : ∀ (l : Os), (flo l).Nodup → (i, A) ∈ l → (j, B) ∈ l → i = j := by
          intro l
          induction l with
          | nil => intro _ m; cases m
          | cons r l ih =>
            intro nd m1 m2
            have nd' := List.nodup_append.mp (show (r.2 ++ flo l).Nodup from nd)
            rcases List.mem_cons.mp m1 with e1 | m1 <;> rcases List.mem_cons.mp m2 with e2 | m2
            · rw [← e1] at e2; exact (Prod.mk.inj e2).1.symm
            · exact absurd rfl (nd'.2.2 a (by rw [← e1]; exact c.ha) a (mem_flo m2 (z ▸ mb)))
            · exact absurd rfl (nd'.2.2 a (by rw [← e2]; exact z ▸ mb) a (mem_flo m1 c.ha))
            · exact ih nd'.2.1 m1 m2
        exact hj (key os (List.nodup_append.mp S.nd).1 c.m m)
theorem os_nodup : ∀ (l : Os), (flo l).Nodup → (i, A) ∈ l → A.Nodup := by
  intro l
  induction l with
  | nil => intro _ m; cases m
  | cons r l ih =>
    intro nd m1
    have nd' := List.nodup_append.mp (show (r.2 ++ flo l).Nodup from nd)
    rcases List.mem_cons.mp m1 with e1 | m1
    · rw [show A = r.2 by rw [← e1]]; exact nd'.1
    · exact ih nd'.2.1 m1
/-- the same list, one's own, with other things -/
theorem chg_same {o o' : HO} (m : (i, A) ∈ os) (ha : a ∈ A) (S : SDo F os as st γ H σ δ) (e : H a = some o) (nt : ∀ xs, o ≠ .tup xs) (nf : ∀ x u, o ≠ .frz x u) : Chg F os as H (upd H a o') i A A a := by
  refine ⟨m, ha, fun b u eb n => ?_, ?_, fun b mb => .inl mb, os_nodup os (List.nodup_append.mp S.nd).1 m, fun b mb => ?_, fun xs z => ?_, fun x u z => ?_⟩
  · rw [upd_ne n]; exact eb
  · rw [upd_same]; exact fun z => nomatch z
  · by_cases z : b = a
    · rw [z, upd_same]; exact fun z => nomatch z
    · rw [upd_ne z]; exact S.ok b (.inr (.inl (mem_flo m mb)))
  · rw [e] at z; exact nt xs (Option.some.inj z)
  · rw [e] at z; exact nf x u (Option.some.inj z)
theorem setOs_same (ix : (os.map (·.1)).Nodup) (m : (i, A) ∈ os) : setOs os i A = os := by
  unfold setOs
  have : ∀ q ∈ os, (if q.1 = i then (i, A) else q) = q := fun q mq => by
    by_cases z : q.1 = i
    · rw [if_pos z]
      have key : ∀ (l : Os), (l.map (·.1)).Nodup → (i, A) ∈ l → q ∈ l → (i, A) = q := by
        intro l
        induction l with
        | nil => intro _ m; cases m
        | cons r l ih =>
          intro nd m1 m2
          have nd' := List.nodup_cons.mp (show (r.1 :: l.map (·.1)).Nodup from nd)
          rcases List.mem_cons.mp m1 with e1 | m1 <;> rcases List.mem_cons.mp m2 with e2 | m2
          · rw [e1, e2]
          · exact absurd (List.mem_map_of_mem (f := (·.1)) m2) (by rw [z, show i = r.1 by rw [← e1]]; exact nd'.1)
          · exact absurd (List.mem_map_of_mem (f := (·.1)) m1) (by rw [← z, e2]; exact nd'.1)
          · exact ih nd'.2 m1 m2
      exact key os ix m mq
    · rw [if_neg z]
  rw [List.map_congr_left this, List.map_id']
theorem SDo.reix {k k' : Nat} {B : List Addr} (S : SDo F ((k, B) :: os) as st γ H σ δ) (hk : δ.length ≤ k) (hk' : k' ∉ os.map (·.1)) : SDo F ((k', B) :: os) as st γ H σ δ := by
  refine ⟨S.gh, S.rel, S.ok, S.nd, List.nodup_cons.mpr ⟨hk', (List.nodup_cons.mp S.ix).2⟩, S.new, S.nb, S.sto, S.len, fun j s e => ?_⟩
  obtain ⟨w, h1, h2⟩ := S.at_ j s e
  refine ⟨w, h1, ?_⟩
  match s, h2 with
  | .im u, h2 => exact h2
  | .raw _, h2 => exact h2
  | .own sh u, ⟨C, m, h2⟩ =>
    refine ⟨C, ?_, h2⟩
    rcases List.mem_cons.mp m with z | m
    · have := getElem?_lt e
      have : j = k := (Prod.mk.inj z).1
      omega
    · exact List.mem_cons_of_mem _ m
end
end UX

set_option Elab.async false
set_option linter.all false
set_option maxRecDepth 100000
set_option maxHeartbeats 4000000
set_option autoImplicit false
namespace UX
open PySem PySem.Spec PyProof.Rows L2
open EL (Ex RB BOk Bn TK rAddU rMulU rSlU rEqU rNeU rLtU rLenQ rTupQ rListQ rReprD cut iSeqU)
/-! ### comprehensions -/
def compM (wt : U → M Bool) (we : U → M U) : List U → M (List U)
  | [] => .ret []
  | x :: xs => .bind (wt x) fun b => if b = true then .bind (we x) fun u => .bind (compM wt we xs) fun r => .ret (u :: r) else compM wt we xs
def szU (us : List U) : Option U := if us.length ≤ sizeLine then some (.lst us) else none
def lcW (wl : M (List U)) (wt : U → M Bool) (we : U → M U) : M U := .bind wl fun us => .bind (compM wt we us) fun r => .o (szU r)
def noOwn (δ : Dl) (vs : List Nat) : Bool := vs.all fun (j : Nat) => match δ[j]? with
  | some (some (.own _ _)) => false
  | some (some (.raw _)) => false
  | _ => true
section
variable {F : Fr} {os : Os} {as as' : SA} {st st' : Sto} {γ : List (U × V)} {H H' : Hp} {σ : L2.St} {δ : Dl}
theorem SDo.wipe (S : SDo F os as st γ H σ δ) : ∀ vs : List Nat, SDo F os as st γ H (L2.wipe σ vs) (wipD δ vs)
  | [] => S
  | v :: vs => (SDo.wipe S vs).unset
theorem wipe_idem (σ : L2.St) (vs : List Nat) : L2.wipe (L2.wipe σ vs) vs = L2.wipe σ vs := by
  have key : ∀ (ws : List Nat), (∀ w ∈ ws, w ∈ vs) → L2.wipe (L2.wipe σ ws) vs = L2.wipe σ vs := by
    intro ws
    induction ws with
    | nil => intro _; rfl
    | cons w ws ih =>
      intro h
      show L2.wipe ((L2.wipe σ ws).set w none) vs = _
      rw [wipe_set _ _ _ _ (h w List.mem_cons_self), ih fun x m => h x (List.mem_cons_of_mem _ m)]
  exact key vs fun _ m => m
theorem wipD_idem (δ : Dl) (vs : List Nat) : wipD (wipD δ vs) vs = wipD δ vs := by
  have key : ∀ (ws : List Nat), (∀ w ∈ ws, w ∈ vs) → wipD (wipD δ ws) vs = wipD δ vs := by
    intro ws
    induction ws with
    | nil => intro _; rfl
    | cons w ws ih =>
      intro h
      show wipD ((wipD δ ws).set w none) vs = _
      rw [wipD_set _ _ _ _ (h w List.mem_cons_self), ih fun x m => h x (List.mem_cons_of_mem _ m)]
  exact key vs fun _ m => m
theorem wipD_len (δ : Dl) : ∀ vs : List Nat, (wipD δ vs).length = δ.length
  | [] => rfl
  | v :: vs => by show ((wipD δ vs).set v none).length = _; rw [List.length_set, wipD_len δ vs]
theorem wipD_ne (δ : Dl) {j : Nat} : ∀ vs : List Nat, j ∉ vs → (wipD δ vs)[j]? = δ[j]?
  | [], _ => rfl
  | v :: vs, h => by
    show ((wipD δ vs).set v none)[j]? = _
    rw [List.getElem?_set_ne (fun z => h (by rw [← z]; exact List.mem_cons_self)), wipD_ne δ vs fun m => h (List.mem_cons_of_mem _ m)]
theorem wipe_ne (σ : L2.St) {j : Nat} : ∀ vs : List Nat, j ∉ vs → (L2.wipe σ vs)[j]? = σ[j]?
  | [], _ => rfl
  | v :: vs, h => by
    show ((L2.wipe σ vs).set v none)[j]? = _
    rw [List.getElem?_set_ne (fun z => h (by rw [← z]; exact List.mem_cons_self)), wipe_ne σ vs fun m => h (List.mem_cons_of_mem _ m)]
def ghv (σ : L2.St) (δ : Dl) (vs : List Nat) : List (U × V) := vs.filterMap fun (j : Nat) => match δ[j]?, σ[j]? with
  | some (some (.im u)), some (some v) => some (u, v)
  | _, _ => none
theorem ghv_ok (S : SDo F os as st γ H σ δ) (vs : List Nat) : ∀ p ∈ ghv σ δ vs, im F.G (rts as) (ban F os as) p.1 p.2 H := fun p m => by
  obtain ⟨j, _, e⟩ := List.mem_filterMap.mp m
  split at e
  · rename_i u v e1 e2
    cases e
    obtain ⟨w, h1, h2⟩ := S.at_ j _ e1
    rw [e2] at h1; cases h1
    exact h2
  · cases e
theorem SDo.restore {g : List (U × V)} {vs : List Nat} {os0 : Os} {as0 : SA} {st0 : Sto} {γ0 : List (U × V)} {H0 : Hp} (S0 : SDo F os0 as0 st0 γ0 H0 σ δ) (no : noOwn δ vs = true) (S : SDo F os as st (ghv σ δ vs ++ γ) H (L2.wipe σ vs) (wipD δ vs)) : SDo F os as st γ H σ δ := by
  refine ⟨fun p m => S.gh p (List.mem_append_right _ m), S.rel, S.ok, S.nd, S.ix, S.new, S.nb, S.sto, S0.len, fun j s e => ?_⟩
  by_cases hj : j ∈ vs
  · have h1 := List.all_eq_true.mp no j hj
    rw [e] at h1
    match s, h1, e with
    | .im u, _, e =>
      obtain ⟨v, h2, _⟩ := S0.at_ j _ e
      refine ⟨v, h2, S.gh (u, v) (List.mem_append_left _ (List.mem_filterMap.mpr ⟨j, hj, ?_⟩))⟩
      simp only [e, h2]
  · obtain ⟨v, h1, h2⟩ := S.at_ j s (by rw [wipD_ne _ _ hj]; exact e)
    exact ⟨v, by rw [wipe_ne _ _ hj] at h1; exact h1, h2⟩
/-- the list that is made: at D, of accU -/
structure LS (F : Fr) (os : Os) (k0 : Nat) (D : Addr) (as : SA) (st : Sto) (γ : List (U × V)) (H : Hp) (σ : L2.St) (δ : Dl) (accU : List U) : Prop where
  S : SDo F ((k0, [D]) :: os) as st γ H σ δ
  a : ∃ acc, H D = some (.lst acc) ∧ imAll F.G (rts as) (ban F ((k0, [D]) :: os) as) accU acc H
variable {k0 : Nat} {D : Addr} {accU : List U}
theorem LS.go (l : LS F os k0 D as st γ H σ δ accU) {σ' : L2.St} {δ' : Dl} (g : Go as as' H H') (S : SDo F ((k0, [D]) :: os) as' st' γ H' σ' δ') : LS F os k0 D as' st' γ H' σ' δ' accU := by
  obtain ⟨acc, e, h⟩ := l.a
  refine ⟨S, acc, g.rb.keep _ _ (fun m => ?_) e, imAll_go g h⟩
  exact (List.nodup_append.mp l.S.nd).2.2 D (List.mem_append_left _ List.mem_cons_self) D m rfl
theorem LS.push (l : LS F os k0 D as st γ H σ δ accU) (hk : δ.length ≤ k0) {u : U} {y : V} (p : im F.G (rts as) (ban F ((k0, [D]) :: os) as) u y H) : ∃ acc, H D = some (.lst acc) ∧ acc.length = accU.length ∧ LS F os k0 D as st γ (upd H D (.lst (acc ++ [y]))) σ δ (accU ++ [u]) := by
  obtain ⟨acc, e, h⟩ := l.a
  have c : Chg F ((k0, [D]) :: os) as H (upd H D (.lst (acc ++ [y]))) k0 [D] [D] D := chg_same List.mem_cons_self List.mem_cons_self l.S e (fun _ z => nomatch z) (fun _ _ z => nomatch z)
  have S := l.S.mut c (x := none) (fun _ z => nomatch z)
  have hi := imAll_snoc (c.imAll h) (c.im p)
  rw [setOs_same l.S.ix List.mem_cons_self] at S hi
  rw [List.set_eq_of_length_le hk] at S
  exact ⟨acc, e, imAll_len h, S, _, upd_same, hi⟩
theorem compM_len {wt : U → M Bool} {we : U → M U} : ∀ {us r : List U} {st st' : Sto}, compM wt we us st = some (.ok r, st') → True := fun _ => trivial
end
section
variable {F : Fr} {δ : Dl} {wi wi1 : TI} {g g1 : TG} {tt tt1 : TT} {te : TE} {vs vs1 : List Nat} {wl : M (List U)}
theorem go_new {as : SA} {H H1 : Hp} {D : Addr} {o : HO} {as0 : SA} {H0 : Hp} (g : Go as0 as H0 H) (hD : H0 D = none) : Go as0 as H0 (upd H D o) := by
  refine ⟨⟨fun b u n e => ?_, fun b xs e => ?_, fun b x u e => ?_, fun b m n => ?_⟩, g.pre, g.new⟩
  · rw [upd_ne (ne_of_none e hD)]; exact g.rb.keep b u n e
  · rw [upd_ne (ne_of_none e hD)]; exact g.rb.tup b xs e
  · rw [upd_ne (ne_of_none e hD)]; exact g.rb.frz b x u e
  · by_cases z : b = D
    · rw [z] at n; exact absurd hD n
    · rw [upd_ne z]; exact g.alive n
theorem en_lc {wt : U → M Bool} {we : U → M U} (no : noOwn δ vs = true) (hs : Src F wi δ wl)
    (hb : ∀ u st r, wt u st = some r → ∃ δ', TgOk F g vs (wipD δ vs) u δ' ∧ EvT F tt δ' (wt u) ∧ EvW F te δ' (we u)) : EvN F (.lst .leaf) (tLc wi g tt te vs) δ (lcW wl wt we) := fun os as st γ σ H c st' S q QQ k => by
  obtain ⟨us, st1, qs, q⟩ := M.bind_inv q
  obtain ⟨r, st2, qr, q⟩ := M.bind_inv q
  obtain ⟨e, rfl⟩ := M.o_inv q
  unfold szU at e
  by_cases hsz : r.length ≤ sizeLine
  case neg => rw [if_neg hsz] at e; cases e
  rw [if_pos hsz] at e
  cases e
  refine hs os as st (ghv σ δ vs ++ γ) σ H us st1 (S.ghost (ghv_ok S vs)) qs _ fun J H1 as1 gh g1 S1 W D hD => ?_
  obtain ⟨k0, hk0, hkl⟩ := nodup_fresh (os.map (·.1)) δ.length
  have S2 := S1.grow hk0 hD (Ex.new (o := .lst []) hD) (by rw [upd_same]; exact fun z => nomatch z)
  have hD0 : H D = none := g1.fresh hD
  have hkw : (wipD δ vs).length ≤ k0 := by rw [wipD_len]; exact hkl
  refine ⟨fun i m Hc => m = us.length - i ∧ i ≤ us.length ∧ ∃ as2 st2 accU rest, Go as as2 H Hc ∧ LS F os k0 D as2 st2 (gh ++ (ghv σ δ vs ++ γ)) Hc (L2.wipe σ vs) (wipD δ vs) accU ∧ compM wt we (us.drop i) st2 = some (.ok rest, st') ∧ accU ++ rest = r,
    ⟨us.length, by simp, Nat.zero_le _, as1, st1, [], r, go_new (H1 := H) g1 hD0, ⟨S2.wipe vs, [], upd_same, rfl⟩, by rw [List.drop_zero]; exact qr, rfl⟩, ?_⟩
  rintro i m Hc ⟨rfl, hi, as2, st2, accU, rest, g2, l2, q2, er⟩
  by_cases hlt : i < us.length
  · right
    refine ⟨W.goes i _ as2 st2 _ _ _ Hc hlt l2.S, fun H' => ∃ m', m' < us.length - i ∧ m' = us.length - (i + 1) ∧ i + 1 ≤ us.length ∧ ∃ as2 st2 accU rest, Go as as2 H H' ∧ LS F os k0 D as2 st2 (gh ++ (ghv σ δ vs ++ γ)) H' (L2.wipe σ vs) (wipD δ vs) accU ∧ compM wt we (us.drop (i + 1)) st2 = some (.ok rest, st') ∧ accU ++ rest = r, fun H' ⟨m', h1, h2, h3⟩ => ⟨m', h1, h2, h3⟩, fun x H' y => ?_⟩
    have ed : us.drop i = us[i] :: us.drop (i + 1) := List.drop_eq_getElem_cons hlt
    rw [ed, compM] at q2
    obtain ⟨b, st3, q3, q2⟩ := M.bind_inv q2
    obtain ⟨δ', tg, ht, he⟩ := hb us[i] st2 _ q3
    obtain ⟨ex, px⟩ := W.yields i _ as2 st2 _ _ _ x Hc H' us[i] (List.getElem?_eq_getElem hlt) l2.S y
    have gx : Go as2 as2 Hc H' := Go.of_ex ex
    have l3 := l2.go gx (l2.S.ex ex)
    refine tg.2 _ as2 st2 _ H' _ x l3.S px _ fun σ2 wq S3 => ⟨by rw [wq, wipe_idem], ?_⟩
    have back : ∀ {as4 : SA} {st4 : Sto} {H4 : Hp}, SDo F ((k0, [D]) :: os) as4 st4 (gh ++ (ghv σ δ vs ++ γ)) H4 σ2 δ' → SDo F ((k0, [D]) :: os) as4 st4 (gh ++ (ghv σ δ vs ++ γ)) H4 (L2.wipe σ vs) (wipD δ vs) := fun S4 => by
      have := S4.wipe vs
      rw [wq, wipe_idem, tg.1, wipD_idem] at this
      exact this
    refine ht _ as2 st2 _ σ2 H' b st3 S3 q3 _ fun H3 as3 g3 S4 => ?_
    cases b with
    | false => exact ⟨us.length - (i + 1), by omega, rfl, hlt, as3, st3, accU, rest, (g2.trans gx).trans g3, l3.go g3 (back S4), q2, er⟩
    | true =>
      simp only [if_true] at q2 ⊢
      obtain ⟨u, st5, q5, q2⟩ := M.bind_inv q2
      obtain ⟨r', st6, q6, q2⟩ := M.bind_inv q2
      cases q2
      refine he _ as3 st3 _ σ2 H3 u st5 S4 q5 _ fun y H5 as5 g5 S5 py => ?_
      obtain ⟨acc, e1, e2, l5⟩ := ((l3.go g3 (back S4)).go g5 (back S5)).push hkw py
      refine ⟨acc, e1, ?_, us.length - (i + 1), by omega, rfl, hlt, as5, st5, accU ++ [u], r', go_new (H1 := H) (((g2.trans gx).trans g3).trans g5) hD0, l5, q6, by rw [List.append_assoc]; exact er⟩
      rw [e2]
      rw [← er, List.length_append, List.length_cons] at hsz
      omega
  · left
    have e : i = us.length := by omega
    subst e
    rw [List.drop_length] at q2
    cases q2
    rw [List.append_nil] at er
    subst er
    refine ⟨W.stops _ as2 _ _ _ _ Hc l2.S, ?_⟩
    obtain ⟨acc, e1, h1⟩ := l2.a
    refine k _ Hc as2 [D] g2 (fun k hk => ?_) (own_lst.mpr ⟨D, acc, rfl, rfl, e1, h1⟩) fun a m => by rw [List.mem_singleton] at m; rw [m]; exact hD0
    have : SDo F ((k0, [D]) :: os) as2 _ γ Hc σ δ := SDo.restore (g := []) (vs := vs) S no l2.S.unghost
    exact this.reix hkl hk
end
end UX

set_option Elab.async false
set_option linter.all false
set_option maxRecDepth 100000
set_option maxHeartbeats 4000000
set_option autoImplicit false
namespace UX
open PySem PySem.Spec PyProof.Rows L2
open EL (Ex RB BOk Bn TK rAddU rMulU rSlU rEqU rNeU rLtU rLenQ rTupQ rListQ rReprD cut iSeqU)
/-! ### comprehensions of two walks -/
def comp2M (wt : U → M Bool) (wl : U → M (List U)) (wt1 : U → U → M Bool) (we : U → U → M U) : List U → M (List U)
  | [] => .ret []
  | x :: xs => .bind (wt x) fun b => if b = true then .bind (wl x) fun ys => .bind (compM (wt1 x) (we x) ys) fun r1 => .bind (comp2M wt wl wt1 we xs) fun r => .ret (r1 ++ r) else comp2M wt wl wt1 we xs
def lc2W (w0 : M (List U)) (wt : U → M Bool) (wl : U → M (List U)) (wt1 : U → U → M Bool) (we : U → U → M U) : M U := .bind w0 fun us => .bind (comp2M wt wl wt1 we us) fun r => .o (szU r)
section
variable {F : Fr} {δ : Dl} {wi wi1 : TI} {g g1 : TG} {tt tt1 : TT} {te : TE} {vs vs1 : List Nat} {w0 : M (List U)}
theorem wipe_sub (σ : L2.St) {vs vs1 : List Nat} (h : ∀ i ∈ vs1, i ∈ vs) : L2.wipe (L2.wipe σ vs1) vs = L2.wipe σ vs := by
  have key : ∀ (ws : List Nat), (∀ w ∈ ws, w ∈ vs) → L2.wipe (L2.wipe σ ws) vs = L2.wipe σ vs := by
    intro ws
    induction ws with
    | nil => intro _; rfl
    | cons w ws ih =>
      intro h
      show L2.wipe ((L2.wipe σ ws).set w none) vs = _
      rw [wipe_set _ _ _ _ (h w List.mem_cons_self), ih fun x m => h x (List.mem_cons_of_mem _ m)]
  exact key vs1 h
theorem wipD_sub (δ : Dl) {vs vs1 : List Nat} (h : ∀ i ∈ vs1, i ∈ vs) : wipD (wipD δ vs1) vs = wipD δ vs := by
  have key : ∀ (ws : List Nat), (∀ w ∈ ws, w ∈ vs) → wipD (wipD δ ws) vs = wipD δ vs := by
    intro ws
    induction ws with
    | nil => intro _; rfl
    | cons w ws ih =>
      intro h
      show wipD ((wipD δ ws).set w none) vs = _
      rw [wipD_set _ _ _ _ (h w List.mem_cons_self), ih fun x m => h x (List.mem_cons_of_mem _ m)]
  exact key vs1 h
/-- the inner walk -/
theorem lc_inner {wl : M (List U)} {wt : U → M Bool} {we : U → M U} (hs : Src F wi1 δ wl) (hb : ∀ u st r, wt u st = some r → ∃ δ', TgOk F g1 vs1 (wipD δ vs1) u δ' ∧ EvT F tt1 δ' (wt u) ∧ EvW F te δ' (we u))
    {os : Os} {k0 : Nat} {D : Addr} {as : SA} {st : Sto} {γ : List (U × V)} {H : Hp} {σ : L2.St} {accU us r : List U} {st1 st2 : Sto} {as00 : SA} {H00 : Hp} (hkl : δ.length ≤ k0) (hD0 : H00 D = none) (g00 : Go as00 as H00 H) (l : LS F os k0 D as st γ H σ δ accU)
    (qs : wl st = some (.ok us, st1)) (qr : compM wt we us st1 = some (.ok r, st2)) (hsz : accU.length + r.length ≤ sizeLine) (Nx : Hp → Prop)
    (hN : ∀ Hc as2, Go as00 as2 H00 Hc → LS F os k0 D as2 st2 γ Hc (L2.wipe σ vs1) (wipD δ vs1) (accU ++ r) → Nx Hc) :
    wi1 σ H fun J1 H4 => ∃ W1 : Nat → Nat → Hp → Prop, (∃ m, W1 0 m H4) ∧ ∀ j k H, W1 j k H →
      (J1.stop j H ∧ Nx H) ∨ (J1.go j H ∧ ∃ Nx1 : Hp → Prop, (∀ H', Nx1 H' → ∃ k', k' < k ∧ W1 (j + 1) k' H') ∧ ∀ x H', J1.yld j H x H' → g1 x (L2.wipe σ vs1) H' fun σ3 H5 => L2.wipe σ3 vs1 = L2.wipe σ vs1 ∧ tt1 σ3 H5 fun b H6 =>
        if b = true then te σ3 H6 fun y H7 => ∃ acc, H7 D = some (.lst acc) ∧ acc.length < sizeLine ∧ Nx1 (upd H7 D (.lst (acc ++ [y]))) else Nx1 H6) := by
  refine hs _ as st γ σ H us st1 l.S qs _ fun J H1 as1 gh g1' S1 W => ?_
  have l1 : LS F os k0 D as1 st1 (gh ++ γ) H1 (L2.wipe σ vs1) (wipD δ vs1) accU := by
    obtain ⟨acc, e, h⟩ := l.a
    refine ⟨S1.wipe vs1, acc, g1'.rb.keep _ _ (fun m => ?_) e, imAll_go g1' h⟩
    exact (List.nodup_append.mp l.S.nd).2.2 D (List.mem_append_left _ List.mem_cons_self) D m rfl
  have hkw : (wipD δ vs1).length ≤ k0 := by rw [wipD_len]; exact hkl
  refine ⟨fun i m Hc => m = us.length - i ∧ i ≤ us.length ∧ ∃ as2 st3 acc2 rest, Go as00 as2 H00 Hc ∧ LS F os k0 D as2 st3 (gh ++ γ) Hc (L2.wipe σ vs1) (wipD δ vs1) acc2 ∧ compM wt we (us.drop i) st3 = some (.ok rest, st2) ∧ acc2 ++ rest = accU ++ r,
    ⟨us.length, by simp, Nat.zero_le _, as1, st1, accU, r, g00.trans g1', l1, by rw [List.drop_zero]; exact qr, rfl⟩, ?_⟩
  rintro i m Hc ⟨rfl, hi, as2, st3, acc2, rest, g2, l2, q2, er⟩
  by_cases hlt : i < us.length
  · right
    refine ⟨W.goes i _ as2 st3 _ _ _ Hc hlt l2.S, fun H' => ∃ m', m' < us.length - i ∧ m' = us.length - (i + 1) ∧ i + 1 ≤ us.length ∧ ∃ as2 st3 acc2 rest, Go as00 as2 H00 H' ∧ LS F os k0 D as2 st3 (gh ++ γ) H' (L2.wipe σ vs1) (wipD δ vs1) acc2 ∧ compM wt we (us.drop (i + 1)) st3 = some (.ok rest, st2) ∧ acc2 ++ rest = accU ++ r, fun H' ⟨m', h1, h2, h3⟩ => ⟨m', h1, h2, h3⟩, fun x H' y => ?_⟩
    have ed : us.drop i = us[i] :: us.drop (i + 1) := List.drop_eq_getElem_cons hlt
    rw [ed, compM] at q2
    obtain ⟨b, st4, q3, q2⟩ := M.bind_inv q2
    obtain ⟨δ', tg, ht, he⟩ := hb us[i] st3 _ q3
    obtain ⟨ex, px⟩ := W.yields i _ as2 st3 _ _ _ x Hc H' us[i] (List.getElem?_eq_getElem hlt) l2.S y
    have gx : Go as2 as2 Hc H' := Go.of_ex ex
    have l3 := l2.go gx (l2.S.ex ex)
    refine tg.2 _ as2 st3 _ H' _ x l3.S px _ fun σ2 wq S3 => ⟨by rw [wq, wipe_idem], ?_⟩
    have back : ∀ {as4 : SA} {st4 : Sto} {H4 : Hp}, SDo F ((k0, [D]) :: os) as4 st4 (gh ++ γ) H4 σ2 δ' → SDo F ((k0, [D]) :: os) as4 st4 (gh ++ γ) H4 (L2.wipe σ vs1) (wipD δ vs1) := fun S4 => by
      have := S4.wipe vs1
      rw [wq, wipe_idem, tg.1, wipD_idem] at this
      exact this
    refine ht _ as2 st3 _ σ2 H' b st4 S3 q3 _ fun H3 as3 g3 S4 => ?_
    cases b with
    | false => exact ⟨us.length - (i + 1), by omega, rfl, hlt, as3, st4, acc2, rest, (g2.trans gx).trans g3, l3.go g3 (back S4), q2, er⟩
    | true =>
      simp only [if_true] at q2 ⊢
      obtain ⟨u, st5, q5, q2⟩ := M.bind_inv q2
      obtain ⟨r', st6, q6, q2⟩ := M.bind_inv q2
      cases q2
      refine he _ as3 st4 _ σ2 H3 u st5 S4 q5 _ fun y H5 as5 g5 S5 py => ?_
      obtain ⟨acc, e1, e2, l5⟩ := ((l3.go g3 (back S4)).go g5 (back S5)).push hkw py
      refine ⟨acc, e1, ?_, us.length - (i + 1), by omega, rfl, hlt, as5, st5, acc2 ++ [u], r', go_new (H1 := H) (((g2.trans gx).trans g3).trans g5) hD0, l5, q6, by rw [List.append_assoc]; exact er⟩
      rw [e2]
      have := congrArg List.length er
      rw [List.length_append, List.length_append, List.length_cons] at this
      omega
  · left
    have e : i = us.length := by omega
    subst e
    rw [List.drop_length] at q2
    cases q2
    rw [List.append_nil] at er
    subst er
    refine ⟨W.stops _ as2 _ _ _ _ Hc l2.S, hN Hc as2 g2 ?_⟩
    obtain ⟨acc, e1, h1⟩ := l2.a
    exact ⟨l2.S.unghost, acc, e1, h1⟩
theorem en_lc2 {wt : U → M Bool} {wl : U → M (List U)} {wt1 : U → U → M Bool} {we : U → U → M U} (no : noOwn δ vs = true) (hv : ∀ i ∈ vs1, i ∈ vs) (hs : Src F wi δ w0)
    (hb : ∀ u st r, wt u st = some r → ∃ δ', TgOk F g vs (wipD δ vs) u δ' ∧ EvT F tt δ' (wt u) ∧ Src F wi1 δ' (wl u) ∧ ∀ y st r, wt1 u y st = some r → ∃ δ'', TgOk F g1 vs1 (wipD δ' vs1) y δ'' ∧ EvT F tt1 δ'' (wt1 u y) ∧ EvW F te δ'' (we u y)) :
    EvN F (.lst .leaf) (tLc2 wi g tt wi1 g1 tt1 te vs vs1) δ (lc2W w0 wt wl wt1 we) := fun os as st γ σ H c st' S q QQ k => by
  obtain ⟨us, st1, qs, q⟩ := M.bind_inv q
  obtain ⟨r, st2, qr, q⟩ := M.bind_inv q
  obtain ⟨e, rfl⟩ := M.o_inv q
  unfold szU at e
  by_cases hsz : r.length ≤ sizeLine
  case neg => rw [if_neg hsz] at e; cases e
  rw [if_pos hsz] at e
  cases e
  refine hs os as st (ghv σ δ vs ++ γ) σ H us st1 (S.ghost (ghv_ok S vs)) qs _ fun J H1 as1 gh g1 S1 W D hD => ?_
  obtain ⟨k0, hk0, hkl⟩ := nodup_fresh (os.map (·.1)) δ.length
  have S2 := S1.grow hk0 hD (Ex.new (o := .lst []) hD) (by rw [upd_same]; exact fun z => nomatch z)
  have hD0 : H D = none := g1.fresh hD
  refine ⟨fun i m Hc => m = us.length - i ∧ i ≤ us.length ∧ ∃ as2 st2 accU rest, Go as as2 H Hc ∧ LS F os k0 D as2 st2 (gh ++ (ghv σ δ vs ++ γ)) Hc (L2.wipe σ vs) (wipD δ vs) accU ∧ comp2M wt wl wt1 we (us.drop i) st2 = some (.ok rest, st') ∧ accU ++ rest = r,
    ⟨us.length, by simp, Nat.zero_le _, as1, st1, [], r, go_new (H1 := H) g1 hD0, ⟨S2.wipe vs, [], upd_same, rfl⟩, by rw [List.drop_zero]; exact qr, rfl⟩, ?_⟩
  rintro i m Hc ⟨rfl, hi, as2, st2, accU, rest, g2, l2, q2, er⟩
  by_cases hlt : i < us.length
  · right
    refine ⟨W.goes i _ as2 st2 _ _ _ Hc hlt l2.S, fun H' => ∃ m', m' < us.length - i ∧ m' = us.length - (i + 1) ∧ i + 1 ≤ us.length ∧ ∃ as2 st2 accU rest, Go as as2 H H' ∧ LS F os k0 D as2 st2 (gh ++ (ghv σ δ vs ++ γ)) H' (L2.wipe σ vs) (wipD δ vs) accU ∧ comp2M wt wl wt1 we (us.drop (i + 1)) st2 = some (.ok rest, st') ∧ accU ++ rest = r, fun H' ⟨m', h1, h2, h3⟩ => ⟨m', h1, h2, h3⟩, fun x H' y => ?_⟩
    have ed : us.drop i = us[i] :: us.drop (i + 1) := List.drop_eq_getElem_cons hlt
    rw [ed, comp2M] at q2
    obtain ⟨b, st3, q3, q2⟩ := M.bind_inv q2
    obtain ⟨δ', tg, ht, hs1, he⟩ := hb us[i] st2 _ q3
    obtain ⟨ex, px⟩ := W.yields i _ as2 st2 _ _ _ x Hc H' us[i] (List.getElem?_eq_getElem hlt) l2.S y
    have gx : Go as2 as2 Hc H' := Go.of_ex ex
    have l3 := l2.go gx (l2.S.ex ex)
    refine tg.2 _ as2 st2 _ H' _ x l3.S px _ fun σ2 wq S3 => ⟨by rw [wq, wipe_idem], ?_⟩
    have back : ∀ {as4 : SA} {st4 : Sto} {H4 : Hp} {acc : List U}, LS F os k0 D as4 st4 (gh ++ (ghv σ δ vs ++ γ)) H4 σ2 δ' acc → LS F os k0 D as4 st4 (gh ++ (ghv σ δ vs ++ γ)) H4 (L2.wipe σ vs) (wipD δ vs) acc := fun l4 => by
      have := l4.S.wipe vs
      rw [wq, wipe_idem, tg.1, wipD_idem] at this
      exact ⟨this, l4.a⟩
    have dl : δ'.length = δ.length := by
      have := congrArg List.length tg.1
      rw [wipD_len, wipD_len, wipD_len] at this
      exact this
    refine ht _ as2 st2 _ σ2 H' b st3 S3 q3 _ fun H3 as3 g3 S4 => ?_
    have l4 : LS F os k0 D as3 st3 (gh ++ (ghv σ δ vs ++ γ)) H3 σ2 δ' accU := (l3.go (Go.refl _ _) S3).go g3 S4
    cases b with
    | false => exact ⟨us.length - (i + 1), by omega, rfl, hlt, as3, st3, accU, rest, (g2.trans gx).trans g3, back l4, q2, er⟩
    | true =>
      simp only [if_true] at q2 ⊢
      obtain ⟨ys, st5, q5, q2⟩ := M.bind_inv q2
      obtain ⟨r1, st6, q6, q2⟩ := M.bind_inv q2
      obtain ⟨r', st7, q7, q2⟩ := M.bind_inv q2
      cases q2
      refine lc_inner hs1 he (by rw [dl]; exact hkl) hD0 ((g2.trans gx).trans g3) l4 q5 q6 ?_ _ fun Hd as8 g8 l8 => ?_
      · rw [← er, List.length_append, List.length_append] at hsz
        omega
      · refine ⟨us.length - (i + 1), by omega, rfl, hlt, as8, st6, accU ++ r1, r', g8, ?_, q7, by rw [List.append_assoc]; exact er⟩
        have := l8.S.wipe vs
        rw [wipe_sub _ hv, wq, wipe_idem, wipD_sub _ hv, tg.1, wipD_idem] at this
        exact ⟨this, l8.a⟩
  · left
    have e : i = us.length := by omega
    subst e
    rw [List.drop_length] at q2
    cases q2
    rw [List.append_nil] at er
    subst er
    refine ⟨W.stops _ as2 _ _ _ _ Hc l2.S, ?_⟩
    obtain ⟨acc, e1, h1⟩ := l2.a
    refine k _ Hc as2 [D] g2 (fun k hk => ?_) (own_lst.mpr ⟨D, acc, rfl, rfl, e1, h1⟩) fun a m => by rw [List.mem_singleton] at m; rw [m]; exact hD0
    have : SDo F ((k0, [D]) :: os) as2 _ γ Hc σ δ := SDo.restore (g := []) (vs := vs) S no l2.S.unghost
    exact this.reix hkl hk
end
end UX

set_option Elab.async false
set_option linter.all false
set_option maxRecDepth 100000
set_option maxHeartbeats 4000000
set_option autoImplicit false
namespace UX
open PySem PySem.Spec PyProof.Rows L2
open EL (Ex RB BOk Bn TK FnG okG)
/-! ### slots by lists -/
def setS : Dl → List Nat → List SV → Dl
  | δ, i :: is, x :: xs => setS (δ.set i (some x)) is xs
  | δ, _, _ => δ
theorem Weak.refl : ∀ δ : Dl, Weak δ δ
  | [] => trivial
  | none :: δ => Weak.refl δ
  | some x :: δ => ⟨rfl, Weak.refl δ⟩
theorem Weak.trans : ∀ {a b c : Dl}, Weak a b → Weak b c → Weak a c
  | [], [], [], _, _ => trivial
  | _ :: a, none :: b, none :: c, h, k => Weak.trans (a := a) (b := b) (c := c) h k
  | _ :: a, some _ :: b, none :: c, h, k => Weak.trans (a := a) (b := b) (c := c) h.2 k
  | _ :: a, some _ :: b, some _ :: c, h, k => ⟨h.1.trans k.1, Weak.trans (a := a) (b := b) (c := c) h.2 k.2⟩
  | _ :: a, none :: b, some _ :: c, _, k => nomatch k.1
  | [], [], _ :: _, _, k => k.elim
  | [], _ :: _, _, h, _ => h.elim
  | _ :: _, [], _, h, _ => nomatch h
  | _ :: _, none :: _, [], _, k => nomatch k
  | _ :: _, some _ :: _, [], _, k => nomatch k
theorem weak_set : ∀ (δ : Dl) (i : Nat), Weak δ (δ.set i none)
  | [], _ => trivial
  | x :: δ, 0 => Weak.refl δ
  | none :: δ, i + 1 => weak_set δ i
  | some _ :: δ, i + 1 => ⟨rfl, weak_set δ i⟩
theorem weak_wip (δ : Dl) : ∀ vs : List Nat, Weak δ (wipD δ vs)
  | [] => Weak.refl δ
  | v :: vs => (weak_wip δ vs).trans (weak_set _ v)
section
variable {F : Fr} {S S1 L : Type} {δ : Dl} {wi : TI} {g : TG} {tb t1 t2 t : TS} {wl : M (List U)} {δ2 : L → Dl} {δn : S → Dl} {δl : L → Dl} {tt : TT} {wt : M Bool}
theorem blk_fin (vs : List Nat) {s : S} (h : wipD δ vs = δn s) : Blk F tNext δ (nxO s) δn δl := blk_end (h ▸ weak_wip δ vs)
theorem blk_brk (vs : List Nat) {l : L} (h : wipD δ vs = δl l) : Blk F tBreak δ (.ret (.bk l) : M (Out S L)) δn δl := blk_bk (h ▸ weak_wip δ vs)
theorem blk_cnt (vs : List Nat) {l : L} (h : wipD δ vs = δl l) : Blk F tCont δ (.ret (.ct l) : M (Out S L)) δn δl := blk_ct (h ▸ weak_wip δ vs)
theorem blk_forS (dr ix vs : List Nat) (vl : S → List SV) {f : U → S → M (Out S S)} {s0 : S} (h0 : setS (wipD δ dr) ix (vl s0) = wipD δ dr) (hs : Src F wi δ wl)
    (hb : ∀ s u st r, f u s st = some r → ∃ δ', TgOk F g vs (setS (wipD δ dr) ix (vl s)) u δ' ∧ Blk F tb δ' (f u s) (fun s => setS (wipD δ dr) ix (vl s)) (fun s => setS (wipD δ dr) ix (vl s))) : Blk F (tFor wi g tb) δ (.bind wl fun us => forO f us s0) (fun s => setS (wipD δ dr) ix (vl s)) δ2 :=
  blk_for (vs := vs) hs (h0.symm ▸ weak_wip δ dr) fun u s => hb s u
theorem blk_whileS (dr ix : List Nat) (vl : S → List SV) {tc : TT} {c : S → M Bool} {b : S → M (Out S S)} {s0 : S} (h0 : setS (wipD δ dr) ix (vl s0) = wipD δ dr) (hc : ∀ s, EvT F tc (setS (wipD δ dr) ix (vl s)) (c s))
    (hb : ∀ s, Blk F tb (setS (wipD δ dr) ix (vl s)) (b s) (fun s => setS (wipD δ dr) ix (vl s)) (fun s => setS (wipD δ dr) ix (vl s))) : Blk F (tWhile tc tb) δ (whileO c b s0) (fun s => setS (wipD δ dr) ix (vl s)) δ2 :=
  blk_while (h0.symm ▸ weak_wip δ dr) hc hb
theorem blk_ifS (dr ix : List Nat) (vl : S → List SV) {wo wu : M (Out S L)} (h : EvT F tt δ wt) (h1 : Blk F t1 δ wo (fun s => setS (wipD δ dr) ix (vl s)) δl) (h2 : Blk F t2 δ wu (fun s => setS (wipD δ dr) ix (vl s)) δl) : Blk F (tIfS tt t1 t2) δ (iteW wt wo wu) (fun s => setS (wipD δ dr) ix (vl s)) δl := blk_if h h1 h2
end
/-! ### defs -/
def spM (G : Cxt) (f : List U → M U) : Sp := fun vs H Q _ => ∃ (B : Bn) (as : SA) (st : Sto) (us : List U) (u : U) (st' : Sto),
  BOk (ban ⟨G, B, H, as⟩ [] as) H ∧ (fl as).Nodup ∧ (∀ a ∈ fl as, ¬ B a) ∧ StOk G (ban ⟨G, B, H, as⟩ [] as) (rts as) as st H ∧ imAll G (rts as) (ban ⟨G, B, H, as⟩ [] as) us vs H ∧ f us st = some (.ok u, st') ∧
  ∀ as' v H', Rt ⟨G, B, H, as⟩ as' st' H' u v → Q v H'
def stD (N : List Str) (us : List U) : Dl := us.map (fun u => some (.im u)) ++ List.replicate (N.length - us.length) none
theorem SDo.start {F : Fr} {st : Sto} {N : List Str} {us : List U} {vs : List V} (ok : BOk (ban F [] F.as0) F.H0) (nd : (fl F.as0).Nodup) (nb : ∀ a ∈ fl F.as0, ¬ F.B a) (sto : StOk F.G (ban F [] F.as0) (rts F.as0) F.as0 st F.H0) (h : imAll F.G (rts F.as0) (ban F [] F.as0) us vs F.H0) :
    SDo F [] F.as0 st [] F.H0 (start N vs) (stD N us) := by
  have hl := imAll_len h
  refine ⟨fun p m => (nomatch m), Go.refl _ _, ok, by simpa [flo] using nd, by simp, fun a m => (nomatch (show a ∈ ([] : List Addr) from m)), fun a z => z.elim (fun m => nomatch (show a ∈ ([] : List Addr) from m)) (nb a), sto, ?_, fun i s e => ?_⟩
  · unfold L2.start stD
    rw [List.length_append, List.length_append, List.length_map, List.length_map, List.length_replicate, List.length_replicate, hl]
  · unfold stD at e
    by_cases hi : i < us.length
    · rw [List.getElem?_append_left (by rw [List.length_map]; exact hi), List.getElem?_map, List.getElem?_eq_getElem hi] at e
      have e2 : SV.im us[i] = s := by simpa using e
      obtain ⟨v, h1, h2⟩ := imAll_get h (List.getElem?_eq_getElem hi)
      subst e2
      refine ⟨v, ?_, h2⟩
      unfold L2.start
      rw [List.getElem?_append_left (by rw [List.length_map, hl]; exact hi), List.getElem?_map, h1]
      rfl
    · rw [List.getElem?_append_right (by rw [List.length_map]; omega), List.getElem?_replicate] at e
      split at e <;> simp at e
def dnil (N : List Str) : Dl := List.replicate N.length none
section
variable {P : Program} {w : World} {K : PySem.W.Frag} {mg : Str → Option Value} {bs : Heap} {CX : CXT} {x qu : Str} {pa : Arguments} {bo : List Stmt} {sc : Scope} {dv : List V} {kw : List (Str × V)} {f : Addr} {fd : FuncData}
theorem fn_ok {at_ : Str → Addr} {N ps : List Str} {k : Nat} {fM : List U → M U} (Fd : FunD K x qu pa bo sc dv kw f fd) (Sc : FnScope N ps sc)
    (hlen : ∀ us st r, fM us st = some r → us.length = ps.length)
    (hb : ∀ (cv : Value) (A : Around) (o : List Env) (s : Shared) (H : Hp) (E : XK), A.guards = some [] → Room k (A.deeper (envOfC qu sc s.heap.objs.size f cv)) →
      ∃ t, PSs (cxOf CX P w K mg bs N qu sc f cv A o s H E) bo t ∧ ∀ B H0 as0 us st r, fM us st = some r → ∃ wo : M (Out Unit Unit), fM us = fnM wo ∧ Blk ⟨⟨K, at_⟩, B, H0, as0⟩ t (stD N us) wo (fun _ => dnil N) (fun _ => dnil N)) :
    FnG P w K mg bs CX (k + 1) f fd ps (spM ⟨K, at_⟩ fM) := by
  refine okG Fd Sc (fun vs H Q E h => ?_) fun cv A o s H vs Q E gd rm hsp => ?_
  · obtain ⟨B, as, st, us, u, st', _, _, _, _, hi, hf, _⟩ := h
    rw [imAll_len hi]
    exact hlen us st _ hf
  · obtain ⟨B, as, st, us, u, st', ok, nd, nb, sto, hi, hf, kk⟩ := hsp
    obtain ⟨t, ht, hB⟩ := hb cv A o s H E gd rm
    refine ⟨t, ht, ?_⟩
    obtain ⟨wo, e, bl⟩ := hB B H as us st _ hf
    rw [e] at hf
    obtain ⟨o', st1, q1, q⟩ := M.bind_inv hf
    refine bl _ [] as st [] _ H o' st1 (SDo.start (F := ⟨⟨K, at_⟩, B, H, as⟩) ok nd nb sto hi) q1 ?_
    cases o' with
    | rt u' => cases q; exact fun as' v H' r => kk as' v H' r
    | nx _ => cases q; exact fun os as' σ H' S => kk as' _ H' (S.rt rfl)
    | bk _ => cases q
    | ct _ => cases q
end
section
variable {α : Type}
def L0 (f : M U) : List U → M U
  | [] => f
  | _ => .fail
def L1 (f : U → M U) : List U → M U
  | [a] => f a
  | _ => .fail
def L2' (f : U → U → M U) : List U → M U
  | [a, b] => f a b
  | _ => .fail
def L3 (f : U → U → U → M U) : List U → M U
  | [a, b, c] => f a b c
  | _ => .fail
def L4 (f : U → U → U → U → M U) : List U → M U
  | [a, b, c, d] => f a b c d
  | _ => .fail
def L5 (f : U → U → U → U → U → M U) : List U → M U
  | [a, b, c, d, e] => f a b c d e
  | _ => .fail
def L6 (f : U → U → U → U → U → U → M U) : List U → M U
  | [a, b, c, d, e, g] => f a b c d e g
  | _ => .fail
def L7 (f : U → U → U → U → U → U → U → M U) : List U → M U
  | [a, b, c, d, e, g, h] => f a b c d e g h
  | _ => .fail
variable {P : List U → Prop}
theorem ar0 {f : M U} (h : P []) : ∀ us st r, L0 f us st = some r → P us
  | [], _, _, _ => h
  | _ :: _, _, _, e => nomatch e
theorem ar1 {f : U → M U} (h : ∀ a, P [a]) : ∀ us st r, L1 f us st = some r → P us
  | [a], _, _, _ => h a
  | [], _, _, e => nomatch e
  | _ :: _ :: _, _, _, e => nomatch e
theorem ar2 {f : U → U → M U} (h : ∀ a b, P [a, b]) : ∀ us st r, L2' f us st = some r → P us
  | [a, b], _, _, _ => h a b
  | [], _, _, e => nomatch e
  | [_], _, _, e => nomatch e
  | _ :: _ :: _ :: _, _, _, e => nomatch e
theorem ar3 {f : U → U → U → M U} (h : ∀ a b c, P [a, b, c]) : ∀ us st r, L3 f us st = some r → P us
  | [a, b, c], _, _, _ => h a b c
  | [], _, _, e => nomatch e
  | [_], _, _, e => nomatch e
  | [_, _], _, _, e => nomatch e
  | _ :: _ :: _ :: _ :: _, _, _, e => nomatch e
theorem ar4 {f : U → U → U → U → M U} (h : ∀ a b c d, P [a, b, c, d]) : ∀ us st r, L4 f us st = some r → P us
  | [a, b, c, d], _, _, _ => h a b c d
  | [], _, _, e => nomatch e
  | [_], _, _, e => nomatch e
  | [_, _], _, _, e => nomatch e
  | [_, _, _], _, _, e => nomatch e
  | _ :: _ :: _ :: _ :: _ :: _, _, _, e => nomatch e
theorem ar5 {f : U → U → U → U → U → M U} (h : ∀ a b c d e, P [a, b, c, d, e]) : ∀ us st r, L5 f us st = some r → P us
  | [a, b, c, d, e], _, _, _ => h a b c d e
  | [], _, _, e => nomatch e
  | [_], _, _, e => nomatch e
  | [_, _], _, _, e => nomatch e
  | [_, _, _], _, _, e => nomatch e
  | [_, _, _, _], _, _, e => nomatch e
  | _ :: _ :: _ :: _ :: _ :: _ :: _, _, _, e => nomatch e
theorem ar6 {f : U → U → U → U → U → U → M U} (h : ∀ a b c d e g, P [a, b, c, d, e, g]) : ∀ us st r, L6 f us st = some r → P us
  | [a, b, c, d, e, g], _, _, _ => h a b c d e g
  | [], _, _, e => nomatch e
  | [_], _, _, e => nomatch e
  | [_, _], _, _, e => nomatch e
  | [_, _, _], _, _, e => nomatch e
  | [_, _, _, _], _, _, e => nomatch e
  | [_, _, _, _, _], _, _, e => nomatch e
  | _ :: _ :: _ :: _ :: _ :: _ :: _ :: _, _, _, e => nomatch e
theorem ar7 {f : U → U → U → U → U → U → U → M U} (h : ∀ a b c d e g i, P [a, b, c, d, e, g, i]) : ∀ us st r, L7 f us st = some r → P us
  | [a, b, c, d, e, g, i], _, _, _ => h a b c d e g i
  | [], _, _, e => nomatch e
  | [_], _, _, e => nomatch e
  | [_, _], _, _, e => nomatch e
  | [_, _, _], _, _, e => nomatch e
  | [_, _, _, _], _, _, e => nomatch e
  | [_, _, _, _, _], _, _, e => nomatch e
  | [_, _, _, _, _, _], _, _, e => nomatch e
  | _ :: _ :: _ :: _ :: _ :: _ :: _ :: _ :: _, _, _, e => nomatch e
end
/-! ### calls -/
mutual
def immU : U → Bool
  | .non => true
  | .bl _ => true
  | .int _ => true
  | .str _ => true
  | .tup us => immA us
  | .top _ => true
  | _ => false
def immA : List U → Bool
  | [] => true
  | u :: us => immU u && immA us
end
section
variable {G : Cxt} {rs : List Addr} {B B' : Bn} {H : Hp}
mutual
theorem im_imm {rs' : List Addr} : ∀ (u : U) (v : V), immU u = true → im G rs B u v H → im G rs' B' u v H
  | .non, _, _, h => h
  | .bl _, _, _, h => h
  | .int _, _, _, h => h
  | .str _, _, _, h => h
  | .tup us, _, p, ⟨a, vs, e, s, q⟩ => ⟨a, vs, e, s, imAll_imm us vs p q⟩
  | .top _, _, _, h => h
  | .loc _, _, p, _ => nomatch p
  | .lst _, _, p, _ => nomatch p
  | .dct _ _, _, p, _ => nomatch p
  | .dcT _ _, _, p, _ => nomatch p
  | .obj _ _ _, _, p, _ => nomatch p
  | .frl _, _, p, _ => nomatch p
theorem imAll_imm {rs' : List Addr} : ∀ (us : List U) (vs : List V), immA us = true → imAll G rs B us vs H → imAll G rs' B' us vs H
  | [], _, _, h => h
  | u :: us, _, p, ⟨v, w, e, h1, h2⟩ => ⟨v, w, e, im_imm u v (Bool.and_eq_true_iff.mp p).1 h1, imAll_imm us w (Bool.and_eq_true_iff.mp p).2 h2⟩
end
end
/-- a store that is not looked into -/
def opq (st : Sto) : Sto := (List.range st.length).map fun i => U.loc i
/-- a def that is handed things of one's own, to be read: it stores nothing -/
def callB (f : List U → M U) (wa : M (List U)) : M U := .bind wa fun us st => match f us (opq st) with
  | some (.ok u, _) => if immU u = true then some (.ok u, st) else none
  | _ => none
def callF (f : List U → M U) (wa : M (List U)) : M U := .bind wa fun us st => match f us (opq st) with
  | some (.ok u, st') => if st'.length = st.length then some (.ok u, st) else none
  | _ => none
def callM (f : List U → M U) (wa : M (List U)) : M U := .bind wa f
section
variable {F : Fr} {δ : Dl} {ta : TA} {wa : M (List U)} {E : XK} {f : List U → M U}
theorem SDo.enter {os : Os} {as : SA} {st : Sto} {γ : List (U × V)} {H : Hp} {σ : L2.St} (S : SDo F os as st γ H σ δ) : BOk (ban ⟨F.G, fun a => F.B a ∨ a ∈ flo os, H, as⟩ [] as) H ∧ (∀ a ∈ fl as, ¬ (F.B a ∨ a ∈ flo os)) ∧ (∀ a, ban ⟨F.G, fun a => F.B a ∨ a ∈ flo os, H, as⟩ [] as a ↔ ban F os as a) := by
  have e : ∀ a, ban ⟨F.G, fun a => F.B a ∨ a ∈ flo os, H, as⟩ [] as a ↔ ban F os as a := fun a => by
    constructor
    · rintro ((h | h) | h | h)
      · exact .inl h
      · exact .inr (.inl h)
      · cases h
      · exact .inr (.inr h)
    · rintro (h | h | h)
      · exact .inl (.inl h)
      · exact .inl (.inr h)
      · exact .inr (.inr h)
  exact ⟨fun a b => S.ok a ((e a).mp b), fun a m z => z.elim (S.nb a (.inr m)) fun z => (List.nodup_append.mp S.nd).2.2 a z a m rfl, e⟩
theorem SDo.leave {os : Os} {as as' : SA} {st st' : Sto} {γ : List (U × V)} {H H' : Hp} {σ : L2.St} {u : U} {v : V} (S : SDo F os as st γ H σ δ) (r : Rt ⟨F.G, fun a => F.B a ∨ a ∈ flo os, H, as⟩ as' st' H' u v) : SDo F os as' st' γ H' σ δ ∧ im F.G (rts as') (ban F os as') u v H' := by
  have e : ∀ a, ban F os as' a → ban ⟨F.G, fun a => F.B a ∨ a ∈ flo os, H, as⟩ [] as' a := by
    rintro a (h | h | h)
    · exact .inl (.inl h)
    · exact .inl (.inr h)
    · exact .inr (.inr h)
  refine ⟨S.go r.rel r.nd (StOk.mono (fun _ _ h => im_sub (fun a _ b => e a b) _ _ h) (fun _ _ h => h) (fun _ _ => rfl) r.sto) fun a m => r.ok a (.inr (.inr m)), im_sub (fun a _ b => e a b) _ _ r.im⟩
theorem ev_call (h : EvAW F ta δ wa) : EvW F (tCall (spM F.G f) [] E ta) δ (callM f wa) := fun os as st γ σ H c st' S q QQ k => by
  obtain ⟨us, st1, qa, q⟩ := M.bind_inv q
  refine h os as st γ σ H us st1 S qa _ fun vs H1 as1 g1 S1 pv => ?_
  show spM F.G f (vs ++ []) H1 QQ E
  rw [List.append_nil]
  obtain ⟨ok, nb, e⟩ := S1.enter
  refine ⟨fun a => F.B a ∨ a ∈ flo os, as1, st1, us, c, st', ok, (List.nodup_append.mp S1.nd).2.1, nb, StOk.mono (fun _ _ h => im_sub (fun a _ b => (e a).mp b) _ _ h) (fun _ _ h => h) (fun _ _ => rfl) S1.sto, imAll_sub (fun a _ b => (e a).mp b) _ _ pv, q, fun as' v H' r => ?_⟩
  obtain ⟨S2, p⟩ := S1.leave r
  exact k v H' as' (g1.trans r.rel) S2 p
theorem StOk.opq {G : Cxt} {B : Bn} {H : Hp} (as : SA) (st : Sto) (h : as.length = st.length) : StOk G B (rts as) (as.map fun p => (p.1, [])) (opq st) H := by
  have key : ∀ (l : SA) (n m : Nat), l.length = m → (∀ i a, (rts l)[i]? = some a → (rts as)[n + i]? = some a) → StOk G B (rts as) (l.map fun p => (p.1, [])) ((List.range' n m).map fun i => U.loc i) H := by
    intro l
    induction l with
    | nil => intro n m e _; cases e; trivial
    | cons p l ih =>
      intro n m e hh
      cases m with
      | zero => cases e
      | succ m =>
        rw [List.range'_succ]
        refine ⟨⟨rfl, p.1, ?_, rfl⟩, ih (n + 1) m (by simpa using e) fun i a q => ?_⟩
        · have := hh 0 p.1 rfl
          simpa using this
        · have := hh (i + 1) a (by simpa [rts] using q)
          rw [show n + 1 + i = n + (i + 1) by omega]
          exact this
  have := key as 0 st.length h fun i a q => by rw [Nat.zero_add]; exact q
  rw [← List.range_eq_range'] at this
  exact this
theorem fl_opq (as : SA) : fl (as.map fun p => (p.1, ([] : List Addr))) = [] := by
  unfold fl
  rw [List.map_map]
  induction as with
  | nil => rfl
  | cons p as ih => rw [List.map_cons, List.flatten_cons, ih]; rfl
theorem rts_opq (as : SA) : rts (as.map fun p => (p.1, ([] : List Addr))) = rts as := by
  unfold rts
  rw [List.map_map]
  rfl
theorem rd_im1 {os : Os} {as : SA} {H : Hp} : ∀ {us : List U} {vs : List V}, rdAll F os as us vs H → imAll F.G (rts as) (ban F [] as) us vs H := by
  intro us
  have sb : ∀ a, H a ≠ none → ban F [] as a → ban F os as a := fun a _ b => b.elim .inl fun b => b.elim (fun z => nomatch z) fun z => .inr (.inr z)
  induction us with
  | nil => intro vs h; exact h
  | cons u us ih =>
    rintro vs ⟨v, r, e, h1, h2⟩
    refine ⟨v, r, e, ?_, ih h2⟩
    cases u with
    | non | bl | int | str | tup | top | frl | loc => exact im_nil (os := os) h1
    | lst us => obtain ⟨a, vs, e, n, h, q⟩ := h1; exact ⟨a, vs, e, n, h, imAll_sub sb _ _ q⟩
    | dct ks us => obtain ⟨a, vs, e, n, h, l, q⟩ := h1; exact ⟨a, vs, e, n, h, l, imAll_sub sb _ _ q⟩
    | dcT ks us => obtain ⟨a, vs, e, n, h, l, q⟩ := h1; exact ⟨a, vs, e, n, h, l, imAll_sub sb _ _ q⟩
    | obj c ns us => obtain ⟨a, dx, vs, e, n, h, l, q⟩ := h1; exact ⟨a, dx, vs, e, n, h, l, imAll_sub sb _ _ q⟩
theorem ev_borrow {os : Os} {as : SA} {st : Sto} {γ : List (U × V)} {H : Hp} {σ : L2.St} {us : List U} {vs : List V} {u : U} {st2 : Sto} {Q : VK} (S : SDo F os as st γ H σ δ) (pv : rdAll F os as us vs H) (e : f us (opq st) = some (.ok u, st2))
    (k : ∀ v H' as', Ex H H' → (∀ (i : Nat) (a : Addr), (rts as)[i]? = some a → (rts as')[i]? = some a) → (rts as').length = st2.length → im F.G (rts as') (ban F [] as) u v H' → Q v H') : spM F.G f (vs ++ []) H Q E := by
  rw [List.append_nil]
  have ab : ∀ a, ban ⟨F.G, ban F [] as, H, as.map fun p => (p.1, [])⟩ [] (as.map fun p => (p.1, [])) a → ban F [] as a := by
    rintro a (h | h | h)
    · exact h
    · cases h
    · rw [fl_opq] at h; cases h
  refine ⟨ban F [] as, as.map fun p => (p.1, []), opq st, us, u, st2, fun a b => S.ok a ((ab a b).elim .inl fun z => z.elim (fun z => nomatch z) fun z => .inr (.inr z)), by rw [fl_opq]; exact List.nodup_nil, fun a m => (by rw [fl_opq] at m; cases m), ?_, ?_, e, fun as' v H' r => ?_⟩
  · rw [rts_opq]; exact StOk.opq as st S.sto.len
  · rw [rts_opq]; exact imAll_sub (fun a _ b => ab a b) _ _ (rd_im1 pv)
  · have ex : Ex H H' := fun a o h => r.rel.rb.keep a o (by show a ∉ fl _; rw [fl_opq]; exact fun z => nomatch z) h
    refine k v H' as' ex (fun i a q => r.rel.pre i a (by show (rts (as.map _))[i]? = _; rw [rts_opq]; exact q)) ?_ (im_sub (fun a _ b => .inl b) _ _ r.im)
    rw [← r.sto.len]; unfold rts; rw [List.length_map]
theorem ev_callB (h : EvAR F ta δ wa) : EvW F (tCall (spM F.G f) [] E ta) δ (callB f wa) := fun os as st γ σ H c st' S q QQ k => by
  obtain ⟨us, st1, qa, q⟩ := M.bind_inv q
  refine h os as st γ σ H us st1 S qa _ fun vs H1 as1 g1 S1 pv => ?_
  cases e : f us (opq st1) with
  | none => rw [e] at q; cases q
  | some p =>
    rw [e] at q
    match p, e, q with
    | (.ok u, st2), e, q =>
      by_cases hi : immU u = true
      · simp only [hi, if_true] at q
        cases q
        exact ev_borrow S1 pv e fun v H' as' ex _ _ p => k v H' as1 (g1.trans (Go.of_ex ex)) (S1.ex ex) (im_imm _ _ hi p)
      · simp only [hi] at q; cases q
    | (.er _, _), e, q => cases q
theorem ef_callF (h : EvAR F ta δ wa) : EvF F (tCall (spM F.G f) [] E ta) δ (callF f wa) := fun os as st γ σ H c st' S q QQ k => by
  obtain ⟨us, st1, qa, q⟩ := M.bind_inv q
  refine h os as st γ σ H us st1 S qa _ fun vs H1 as1 g1 S1 pv => ?_
  cases e : f us (opq st1) with
  | none => rw [e] at q; cases q
  | some p =>
    rw [e] at q
    match p, e, q with
    | (.ok u, st2), e, q =>
      by_cases hi : st2.length = st1.length
      · simp only [hi, if_true] at q
        cases q
        refine ev_borrow S1 pv e fun v H' as' ex pr le p => k v H' as1 (g1.trans (Go.of_ex ex)) (S1.ex ex) ?_
        have er : rts as' = rts as1 := by
          apply List.ext_getElem?
          intro i
          by_cases z : i < (rts as1).length
          · rw [List.getElem?_eq_getElem z]
            exact pr i _ (List.getElem?_eq_getElem z)
          · have l1 : (rts as1).length = st'.length := by unfold rts; rw [List.length_map]; exact S1.sto.len
            rw [List.getElem?_eq_none (by omega), List.getElem?_eq_none (by omega)]
        rw [er] at p
        exact p
      · simp only [hi] at q; cases q
    | (.er _, _), e, q => cases q
end
end UX

set_option Elab.async false
set_option linter.all false
set_option maxRecDepth 100000
set_option maxHeartbeats 4000000
set_option autoImplicit false
namespace UX
open PySem PySem.Spec PyProof.Rows L2
open EL (Ex RB BOk Bn TK rEqU rNeU rLtU iSeqU)
/-! ### a place within what is one's own -/
abbrev Hl := U × (U → U)
structure Hole (F : Fr) (os : Os) (as : SA) (i : Nat) (S : Sh) (σ : L2.St) (H : Hp) (s : Sh) (h : Hl) (v : V) : Prop where
  ex : ∃ A A1 A' A2 v0, (i, A) ∈ os ∧ σ[i]? = some (some v0) ∧ A = A1 ++ (A' ++ A2) ∧ ownD F.G (rts as) (ban F os as) s h.1 v H A' ∧
    ∀ rs2 B2 H2 u2 A'2, (∀ u v, im F.G (rts as) (ban F os as) u v H → im F.G rs2 B2 u v H2) → (∀ a xs, H a = some (.tup xs) → H2 a = some (.tup xs)) → (∀ a, a ∈ A1 ∨ a ∈ A2 → H2 a = H a) →
      ownD F.G rs2 B2 s u2 v H2 A'2 → ownD F.G rs2 B2 S (h.2 u2) v0 H2 (A1 ++ (A'2 ++ A2))
def EvH (F : Fr) (i : Nat) (S s : Sh) (te : TE) (δ : Dl) (w : M Hl) : Prop := ∀ os as st γ σ H h st', SDo F os as st γ H σ δ → w st = some (.ok h, st') → ∀ QQ : VK, (∀ v H' as', Go as as' H H' → SDo F os as' st' γ H' σ δ → Hole F os as' i S σ H' s h v → QQ v H') → te σ H QQ
section
variable {F : Fr} {os : Os} {as as' : SA} {st : Sto} {γ : List (U × V)} {i : Nat} {S s : Sh} {σ : L2.St} {H H' : Hp} {h : Hl} {v : V} {δ : Dl}
theorem Hole.go (hl : Hole F os as i S σ H s h v) (Q : SDo F os as st γ H σ δ) (g : Go as as' H H') : Hole F os as' i S σ H' s h v := by
  obtain ⟨A, A1, A', A2, v0, m, e0, eA, o, pl⟩ := hl.ex
  have al : ∀ a ∈ A, H a ≠ none := fun a z => Q.ok a (.inr (.inl (mem_flo m z)))
  have nf : ∀ a ∈ A, a ∉ fl as := fun a z q => (List.nodup_append.mp Q.nd).2.2 a (mem_flo m z) a q rfl
  have kp : ∀ a ∈ A, H' a = H a := fun a z => by
    cases e : H a with
    | none => exact absurd e (al a z)
    | some o => exact g.rb.keep a o (nf a z) e
  have inA : ∀ a ∈ A', a ∈ A := fun a z => by rw [eA]; exact List.mem_append_right _ (List.mem_append_left _ z)
  refine ⟨A, A1, A', A2, v0, m, e0, eA, own_go g o (fun a z => nf a (inA a z)) fun a z => al a (inA a z), fun rs2 B2 H2 u2 A'2 t1 t2 t3 o2 => ?_⟩
  exact pl rs2 B2 H2 u2 A'2 (fun u v z => t1 u v (im_go g z)) (fun a xs z => t2 a xs (sqT_go g z)) (fun a z => by rw [t3 a z, kp a (by rw [eA]; exact z.elim (fun z => List.mem_append_left _ z) fun z => List.mem_append_right _ (List.mem_append_right _ z))]) o2
/-- the whole slot -/
theorem eh_slot {u : U} (hd : δ[i]? = some (some (.own S u))) : EvH F i S S (tVar i) δ (.ret (u, id)) := fun os as st γ σ H h st' Q q QQ k => by
  cases q
  obtain ⟨v, e, A, m, p⟩ := Q.get hd
  refine ⟨v, e, k v H as (Go.refl _ _) Q ⟨A, [], A, [], v, m, e, by simp, p, fun rs2 B2 H2 u2 A'2 _ _ _ o2 => by simpa using o2⟩⟩
/-- one item of a list -/
def ixH (h : Hl) : U → Option Hl
  | .int n => match h.1 with
    | .lst us => match ixN us.length n with
      | some j => match us[j]? with
        | some u => some (u, fun x => h.2 (.lst (us.set j x)))
        | none => none
      | none => none
    | .tup us => match ixN us.length n with
      | some j => match us[j]? with
        | some u => some (u, fun x => h.2 (.tup (us.set j x)))
        | none => none
      | none => none
    | _ => none
  | _ => none
/-- a field of an object -/
def fldH (f : Str) (h : Hl) : Option Hl := match h.1 with
  | .obj c ns us => match ns.idxOf? f with
    | some j => match us[j]? with
      | some u => some (u, fun x => h.2 (.obj c ns (us.set j x)))
      | none => none
    | none => none
  | _ => none
theorem ownZ_split {P : Nat → U → V → Hp → List Addr → Prop} : ∀ {us : List U} {n j : Nat} {vs : List V} {A : List Addr} {u : U}, ownZ P n us vs H A → us[j]? = some u → ∃ v A1 A' A2, vs[j]? = some v ∧ A = A1 ++ (A' ++ A2) ∧ P (n + j) u v H A' ∧
    ∀ (P' : Nat → U → V → Hp → List Addr → Prop) H2 u2 A'2, (∀ m x y B, (∀ a ∈ B, a ∈ A1 ∨ a ∈ A2) → P m x y H B → P' m x y H2 B) → P' (n + j) u2 v H2 A'2 → ownZ P' n (us.set j u2) vs H2 (A1 ++ (A'2 ++ A2))
  | [], _, _, _, _, _, _, e => by simp at e
  | x :: us, n, 0, _, _, u, ⟨v, r, A1, A2, e1, e2, h1, h2⟩, e => by
    simp at e; subst e e1 e2
    refine ⟨v, [], A1, A2, rfl, rfl, h1, fun P' H2 u2 A'2 t p => ⟨v, r, A'2, A2, rfl, rfl, p, ?_⟩⟩
    refine ownZ_mono (P := fun m x y H B => P m x y H B) (fun m x y B hB hp => t m x y B (fun a z => .inr (hB a z)) hp) h2
  | x :: us, n, j + 1, _, _, u, ⟨v, r, A1, A2, e1, e2, h1, h2⟩, e => by
    obtain ⟨v', B1, B', B2, f1, f2, f3, f4⟩ := ownZ_split (j := j) h2 (by simpa using e)
    subst e1 e2 f2
    refine ⟨v', A1 ++ B1, B', B2, by simpa using f1, by simp, by rw [show n + (j + 1) = n + 1 + j by omega]; exact f3, fun P' H2 u2 A'2 t p => ?_⟩
    refine ⟨v, r, A1, B1 ++ (A'2 ++ B2), rfl, by simp, t n x v A1 (fun a z => .inl (List.mem_append_left _ z)) h1, ?_⟩
    exact f4 P' H2 u2 A'2 (fun m x y B hB hp => t m x y B (fun a z => (hB a z).imp (fun z => List.mem_append_right _ z) id) hp) (by rw [show n + 1 + j = n + (j + 1) by omega]; exact p)
theorem ixN_eq {α : Type} {us : List α} {i : Int} {j : Nat} {x : α} (e : ixN us.length i = some j) (h : us[j]? = some x) : atI us i = some x := by
  unfold atI; rw [e]; exact h
theorem eh_ixL {te ti : TE} {w : M Hl} {wi : M U} (h : EvH F i S (.lst s) te δ w) (hi : EvR F ti δ wi) : EvH F i S s (tOp (rIx F.G.K) te ti) δ (.bind w fun h => .bind wi fun n => .o (ixH h n)) := fun os as st γ σ H hl st' Q q QQ k => by
  obtain ⟨h1, st1, q1, q⟩ := M.bind_inv q
  obtain ⟨n, st2, q2, q⟩ := M.bind_inv q
  obtain ⟨e, rfl⟩ := M.o_inv q
  refine h os as st γ σ H h1 st1 Q q1 _ fun x H1 as1 g1 S1 p1 => hi os as1 st1 γ σ H1 n _ S1 q2 _ fun y H2 as2 g2 S2 p2 => ?_
  have p1 := p1.go S1 g2
  obtain ⟨A, A1, A', A2, v0, m, e0, eA, o, pl⟩ := p1.ex
  obtain ⟨u1, f1⟩ := h1
  cases n with
  | int n => ?_
  | _ => cases e
  cases u1 with
  | lst us =>
    simp only [ixH] at e
    obtain ⟨a, vs, B, e1, e2, e3, z⟩ := o
    cases ej : ixN us.length n with
    | none => rw [ej] at e; cases e
    | some j =>
      rw [ej] at e
      simp only at e
      cases eu : us[j]? with
      | none => rw [eu] at e; cases e
      | some u =>
        rw [eu] at e
        simp only at e
        cases e
        obtain ⟨v, B1, B', B2, f1, f2, f3, f4⟩ := ownZ_split z eu
        refine .inl ⟨a, vs, n, v, e1, p2, .inl (.inl e3), ixN_eq (by rw [ownZ_len z]; exact ej) f1, ?_⟩
        refine k v H2 as2 (g1.trans g2) S2 ⟨A, A1 ++ a :: B1, B', B2 ++ A2, v0, m, e0, by rw [eA, e2, f2]; simp, f3, fun rs2 B2' H3 u2 A'2 t1 t2 t3 o2 => ?_⟩
        have := pl rs2 B2' H3 (.lst (us.set j u2)) (a :: (B1 ++ (A'2 ++ B2))) t1 t2 (fun b z => t3 b (z.imp (fun z => List.mem_append_left _ z) fun z => List.mem_append_right _ z)) ⟨a, vs, B1 ++ (A'2 ++ B2), e1, rfl, by rw [t3 a (.inl (List.mem_append_right _ List.mem_cons_self))]; exact e3, ?_⟩
        · simpa using this
        · exact f4 _ H3 u2 A'2 (fun m x y C hC hp => own_mono t1 t2 _ _ _ _ (fun b z => t3 b ((hC b z).imp (fun z => List.mem_append_right _ (List.mem_cons_of_mem _ z)) fun z => List.mem_append_left _ z)) hp) o2
  | _ => exact False.elim o
theorem eh_ixT {f : Nat → Sh} {j : Nat} {te : TE} {w : M Hl} (h : EvH F i S (.tup f) te δ w) {ti : TE} {wi : M U} (hi : EvR F ti δ wi) (hf : ∀ n, f n = s) : EvH F i S s (tOp (rIx F.G.K) te ti) δ (.bind w fun h => .bind wi fun n => .o (ixH h n)) := fun os as st γ σ H hl st' Q q QQ k => by
  obtain ⟨h1, st1, q1, q⟩ := M.bind_inv q
  obtain ⟨n, st2, q2, q⟩ := M.bind_inv q
  obtain ⟨e, rfl⟩ := M.o_inv q
  refine h os as st γ σ H h1 st1 Q q1 _ fun x H1 as1 g1 S1 p1 => hi os as1 st1 γ σ H1 n _ S1 q2 _ fun y H2 as2 g2 S2 p2 => ?_
  have p1 := p1.go S1 g2
  obtain ⟨A, A1, A', A2, v0, m, e0, eA, o, pl⟩ := p1.ex
  obtain ⟨u1, f1⟩ := h1
  cases n with
  | int n => ?_
  | _ => cases e
  cases u1 with
  | tup us =>
    simp only [ixH] at e
    obtain ⟨a, vs, e1, e3, z⟩ := o
    cases ej : ixN us.length n with
    | none => rw [ej] at e; cases e
    | some j =>
      rw [ej] at e
      simp only at e
      cases eu : us[j]? with
      | none => rw [eu] at e; cases e
      | some u =>
        rw [eu] at e
        simp only at e
        cases e
        obtain ⟨v, B1, B', B2, f1, f2, f3, f4⟩ := ownZ_split z eu
        have f3 : ownD F.G (rts as2) (ban F os as2) (f (0 + j)) u v H2 B' := f3
        rw [hf] at f3
        refine .inr (.inl ⟨a, vs, n, v, e1, p2, EL.sqT_of e3, ixN_eq (by rw [ownZ_len z]; exact ej) f1, ?_⟩)
        refine k v H2 as2 (g1.trans g2) S2 ⟨A, A1 ++ B1, B', B2 ++ A2, v0, m, e0, by rw [eA, f2]; simp, f3, fun rs2 B2' H3 u2 A'2 t1 t2 t3 o2 => ?_⟩
        have := pl rs2 B2' H3 (.tup (us.set j u2)) (B1 ++ (A'2 ++ B2)) t1 t2 (fun b z => t3 b (z.imp (fun z => List.mem_append_left _ z) fun z => List.mem_append_right _ z)) ⟨a, vs, e1, t2 _ _ e3, ?_⟩
        · simpa using this
        · refine f4 (fun n => ownD F.G rs2 B2' (f n)) H3 u2 A'2 (fun m x y C hC hp => own_mono t1 t2 _ _ _ _ (fun b z => t3 b ((hC b z).imp (fun z => List.mem_append_right _ z) fun z => List.mem_append_left _ z)) hp) ?_
          show ownD F.G rs2 B2' (f (0 + j)) u2 v H3 A'2
          rw [hf]; exact o2
  | _ => exact False.elim o
end
end UX

set_option Elab.async false
set_option linter.all false
set_option maxRecDepth 100000
set_option maxHeartbeats 4000000
set_option autoImplicit false
namespace UX
open PySem PySem.Spec PyProof.Rows L2
open EL (Ex RB BOk Bn TK rEqU rNeU rLtU iSeqU)
/-! ### expressions that change what is one's own -/
def EvX (F : Fr) (i : Nat) (S : Sh) (te : TE) (δ : Dl) (w : M (U × U)) : Prop := ∀ os as st γ σ H a st', SDo F os as st γ H σ δ → w st = some (.ok a, st') → ∀ QQ : VK, (∀ v H' os' as', SDo F os' as' st' γ H' σ (δ.set i (some (.own S a.2))) → im F.G (rts as') (ban F os' as') a.1 v H' → QQ v H') → te σ H QQ
/-- a method that changes a list -/
def MutL (F : Fr) (r : V → List V → Hp → VK → Prop) (f : List U → List U → Option (U × List U)) : Prop := ∀ os as H a vs us xs ws p, H a = some (.lst vs) → imAll F.G (rts as) (ban F os as) us vs H → imAll F.G (rts as) (ban F os as) xs ws H → f us xs = some p →
  ∃ v vs', imAll F.G (rts as) (ban F os as) p.2 vs' H ∧ im F.G (rts as) (ban F os as) p.1 v H ∧ ∀ Q : VK, Q v (upd H a (.lst vs')) → r (.ref a) ws H Q
def mutL (f : List U → List U → Option (U × List U)) (h : Hl) (xs : List U) : Option (U × U) := match h.1 with
  | .lst us => (f us xs).map fun p => (p.1, h.2 (.lst p.2))
  | _ => none
def appL : List U → List U → Option (U × List U)
  | us, [x] => if us.length < sizeLine then some (.non, us ++ [x]) else none
  | _, _ => none
def extL : List U → List U → Option (U × List U)
  | us, [.lst xs] => if us.length + xs.length ≤ sizeLine then some (.non, us ++ xs) else none
  | _, _ => none
def popL : List U → List U → Option (U × List U)
  | us, [] => match us[us.length - 1]? with
    | some u => some (u, us.dropLast)
    | none => none
  | _, _ => none
def popAtL : List U → List U → Option (U × List U)
  | us, [.int i] => if -(2 ^ 63) ≤ i ∧ i < 2 ^ 63 then match seqIndex? i us.length with
    | some k => match us[k]? with
      | some u => some (u, us.eraseIdx k)
      | none => none
    | none => none else none
  | _, _ => none
def revL : List U → List U → Option (U × List U)
  | us, [] => some (.non, us.reverse)
  | _, _ => none
section
variable {F : Fr} {S L : Type} {δ : Dl} {i j : Nat} {Sh0 : Sh} {te tp tv ty : TE} {ta : TA} {t2 : TS} {δn : S → Dl} {δl : L → Dl}
theorem im1 {G : Cxt} {rs : List Addr} {B : Bn} {H : Hp} {x : U} {ws : List V} (h : imAll G rs B [x] ws H) : ∃ y, ws = [y] ∧ im G rs B x y H := by
  obtain ⟨y, r, e, h1, h2⟩ := h
  cases (show r = [] from h2)
  exact ⟨y, e, h1⟩
theorem mut_app : MutL F rAppend appL := fun os as H a vs us xs ws p e h hx q => by
  rcases xs with _ | ⟨x, _ | ⟨x2, xs⟩⟩
  · cases q
  · obtain ⟨y, rfl, hy⟩ := im1 hx
    simp only [appL] at q
    split at q
    · rename_i hl
      cases q
      exact ⟨.non, vs ++ [y], imAll_snoc h hy, rfl, fun Q k => ⟨a, vs, y, rfl, rfl, e, by rw [imAll_len h]; exact hl, k⟩⟩
    · cases q
  · cases q
theorem mut_ext : MutL F rExtend extL := fun os as H a vs us xs ws p e h hx q => by
  rcases xs with _ | ⟨x, _ | ⟨x2, xs⟩⟩
  · cases q
  · obtain ⟨y, rfl, hy⟩ := im1 hx
    cases x with
    | lst xs =>
      obtain ⟨b, zs, rfl, _, hb, hz⟩ := hy
      simp only [extL] at q
      split at q
      · rename_i hl
        cases q
        exact ⟨.non, vs ++ zs, imAll_append h hz, rfl, fun Q k => ⟨a, b, vs, zs, rfl, rfl, e, hb, by rw [imAll_len h, imAll_len hz]; exact hl, k⟩⟩
      · cases q
    | _ => cases q
  · cases x <;> cases q
theorem imAll_dropLast {G : Cxt} {rs : List Addr} {B : Bn} {H : Hp} {us : List U} {vs : List V} (h : imAll G rs B us vs H) : imAll G rs B us.dropLast vs.dropLast H := by
  rw [List.dropLast_eq_take, List.dropLast_eq_take, imAll_len h]
  exact imAll_take _ h
theorem mut_pop : MutL F rPop popL := fun os as H a vs us xs ws p e h hx q => by
  cases xs with
  | nil =>
    cases (show ws = [] from hx)
    simp only [popL] at q
    cases eu : us[us.length - 1]? with
    | none => rw [eu] at q; cases q
    | some u =>
      rw [eu] at q
      cases q
      obtain ⟨v, e1, e2⟩ := imAll_get h eu
      exact ⟨v, vs.dropLast, imAll_dropLast h, e2, fun Q k => ⟨a, vs, v, rfl, rfl, e, by rw [imAll_len h]; exact e1, k⟩⟩
  | cons x xs => cases q
theorem mut_popAt : MutL F rPopAt popAtL := fun os as H a vs us xs ws p e h hx q => by
  rcases xs with _ | ⟨x, _ | ⟨x2, xs⟩⟩
  · cases q
  · obtain ⟨y, rfl, hy⟩ := im1 hx
    cases x with
    | int i =>
      cases (show y = _ from hy)
      simp only [popAtL] at q
      split at q
      · rename_i hc
        cases ek : seqIndex? i us.length with
        | none => rw [ek] at q; cases q
        | some k =>
          rw [ek] at q
          simp only at q
          cases eu : us[k]? with
          | none => rw [eu] at q; cases q
          | some u =>
            rw [eu] at q
            cases q
            obtain ⟨v, e1, e2⟩ := imAll_get h eu
            exact ⟨v, vs.eraseIdx k, imAll_erase k h, e2, fun Q kk => ⟨a, vs, i, k, v, rfl, rfl, e, hc.1, hc.2, by rw [imAll_len h]; exact ek, e1, kk⟩⟩
      · cases q
    | _ => cases q
  · cases x <;> cases q
theorem mut_rev : MutL F rReverse revL := fun os as H a vs us xs ws p e h hx q => by
  cases xs with
  | nil =>
    cases (show ws = [] from hx)
    cases q
    exact ⟨.non, vs.reverse, imAll_rev h, rfl, fun Q k => ⟨a, vs, rfl, rfl, e, k⟩⟩
  | cons x xs => cases q
/-- the list at a place is changed -/
theorem Hole.setL {os : Os} {as : SA} {st : Sto} {γ : List (U × V)} {σ : L2.St} {H : Hp} {h : Hl} {v : V} {us us' : List U} (hl : Hole F os as i Sh0 σ H (.lst .leaf) h v) (Q : SDo F os as st γ H σ δ) (eu : h.1 = .lst us) :
    ∃ a vs, v = .ref a ∧ H a = some (.lst vs) ∧ imAll F.G (rts as) (ban F os as) us vs H ∧ ∀ vs', imAll F.G (rts as) (ban F os as) us' vs' H → ∃ A, SDo F os as st γ (upd H a (.lst vs')) σ (δ.set i (some (.own Sh0 (h.2 (.lst us'))))) ∧ Chg F os as H (upd H a (.lst vs')) i A A a ∧ setOs os i A = os := by
  obtain ⟨A, A1, A', A2, v0, m, e0, eA, o, pl⟩ := hl.ex
  rw [eu] at o
  obtain ⟨a, vs, e1, e2, e3, q⟩ := own_lst.mp o
  refine ⟨a, vs, e1, e3, q, fun vs' h' => ?_⟩
  have ma : a ∈ A := by rw [eA, e2]; exact List.mem_append_right _ List.mem_cons_self
  have c : Chg F os as H (upd H a (.lst vs')) i A A a := chg_same m ma Q e3 (fun _ z => nomatch z) (fun _ _ z => nomatch z)
  have so := setOs_same Q.ix m
  refine ⟨A, ?_, c, so⟩
  have nd := os_nodup os (List.nodup_append.mp Q.nd).1 m
  rw [eA, e2] at nd
  have := Q.mut c (x := some (.own Sh0 (h.2 (.lst us')))) fun s es => by
    cases es
    refine ⟨_, _, v0, rfl, e0, ?_⟩
    rw [so]
    have := pl (rts as) (ban F os as) (upd H a (.lst vs')) (.lst us') A' (fun u v z => by have := c.im z; rw [so] at this; exact this) (fun b xs z => c.rb.tup _ _ z) (fun b z => upd_ne fun e => ?_) (own_lst.mpr ⟨a, vs', e1, e2, upd_same, by have := c.imAll h'; rw [so] at this; exact this⟩)
    · rw [eA]; exact this
    · subst e
      have nd' := List.nodup_append.mp nd
      rcases z with z | z
      · exact nd'.2.2 b z b List.mem_cons_self rfl
      · exact (List.nodup_cons.mp nd'.2.1).1 z
  rw [so] at this
  exact this
theorem ex_mut {r : V → List V → Hp → VK → Prop} {f : List U → List U → Option (U × List U)} {wh : M Hl} {wa : M (List U)} (hm : MutL F r f) (h : EvH F i Sh0 (.lst .leaf) tp δ wh) (ha : EvAW F ta δ wa) :
    EvX F i Sh0 (tBM F.G.K "list" r tp ta) δ (.bind wh fun h => .bind wa fun xs => .o (mutL f h xs)) := fun os as st γ σ H c st' Q q QQ k => by
  obtain ⟨h1, st1, q1, q⟩ := M.bind_inv q
  obtain ⟨xs, st2, q2, q⟩ := M.bind_inv q
  obtain ⟨e, rfl⟩ := M.o_inv q
  refine h os as st γ σ H h1 st1 Q q1 _ fun x H1 as1 g1 S1 p1 => ⟨?_, ha os as1 st1 γ σ H1 xs _ S1 q2 _ fun ws H2 as2 g2 S2 p2 => ?_⟩
  · obtain ⟨A, A1, A', A2, v0, m, e0, eA, o, pl⟩ := p1.ex
    unfold mutL at e
    cases eu : h1.1 <;> rw [eu] at e <;> first | (cases e; done) | skip
    rw [eu] at o
    obtain ⟨a, vs, e1, e2, e3, q⟩ := own_lst.mp o
    rw [e1]
    exact .inl ⟨rfl, vs, EL.sqL_of e3⟩
  · have p1 := p1.go S1 g2
    unfold mutL at e
    cases eu : h1.1 <;> rw [eu] at e <;> first | (cases e; done) | skip
    rename_i us
    simp only at e
    obtain ⟨p, ep, ec⟩ := Option.map_eq_some_iff.mp e
    obtain ⟨a, vs, e1, e3, hv, fin⟩ := p1.setL (us' := p.2) S2 eu
    obtain ⟨v, vs', h1', h2', h3'⟩ := hm os as2 H2 a vs us xs ws p e3 hv p2 ep
    obtain ⟨A, S3, cg, so⟩ := fin vs' h1'
    rw [e1]
    refine h3' QQ (k v _ os as2 ?_ ?_)
    · rw [← ec]; exact S3
    · rw [← ec]
      have := cg.im h2'
      rw [so] at this
      exact this
theorem ex_mut0 {r : V → List V → Hp → VK → Prop} {f : List U → List U → Option (U × List U)} {wh : M Hl} (hm : MutL F r f) (h : EvH F i Sh0 (.lst .leaf) tp δ wh) :
    EvX F i Sh0 (tBM0 F.G.K "list" r tp) δ (.bind wh fun h => .o (mutL f h [])) := fun os as st γ σ H c st' Q q QQ k => by
  have := ex_mut (ta := tNil) (wa := nilA) hm h ea_nil os as st γ σ H c st' Q (by
    obtain ⟨h1, st1, q1, q⟩ := M.bind_inv q
    rw [M.bind_of q1]
    exact q) QQ k
  exact this
/-- as statements -/
theorem blk_x {w : M (U × U)} {k : U → M (Out S L)} (h : EvX F i Sh0 te δ w) (h2 : ∀ u, Blk F t2 (δ.set i (some (.own Sh0 u))) (k u) δn δl) : Blk F (tSeq (tDrop te) t2) δ (.bind w fun p => k p.2) δn δl := fun D os as st γ σ H o st' Q q P => by
  obtain ⟨p, st1, qp, q⟩ := M.bind_inv q
  exact h os as st γ σ H p _ Q qp _ fun v H1 os1 as1 S1 _ => h2 p.2 D os1 as1 st1 γ σ H1 o st' S1 q P
theorem blk_setx {w : M (U × U)} {k : U → U → M (Out S L)} (h : EvX F i Sh0 te δ w) (h2 : ∀ x u, Blk F t2 ((δ.set i (some (.own Sh0 u))).set j (some (.im x))) (k x u) δn δl) : Blk F (tSeq (tAsg te (gName j)) t2) δ (.bind w fun p => k p.1 p.2) δn δl := fun D os as st γ σ H o st' Q q P => by
  obtain ⟨p, st1, qp, q⟩ := M.bind_inv q
  exact h os as st γ σ H p _ Q qp _ fun v H1 os1 as1 S1 pv => h2 p.1 p.2 D os1 as1 st1 γ _ H1 o st' (S1.set pv) q P
theorem blk_tgx {g : TG} {vs : List Nat} {w : M (U × U)} {k : U → U → M (Out S L)} (h : EvX F i Sh0 te δ w) (h2 : ∀ u x st r, k x u st = some r → ∃ δ', TgOk F g vs (δ.set i (some (.own Sh0 u))) x δ' ∧ Blk F t2 δ' (k x u) δn δl) : Blk F (tSeq (tAsg te g) t2) δ (.bind w fun p => k p.1 p.2) δn δl := fun D os as st γ σ H o st' Q q P => by
  obtain ⟨p, st1, qp, q⟩ := M.bind_inv q
  refine h os as st γ σ H p _ Q qp _ fun v H1 os1 as1 S1 pv => ?_
  obtain ⟨δ', tg, bk⟩ := h2 p.2 p.1 st1 _ q
  exact tg.2 os1 as1 st1 γ H1 σ v S1 pv _ fun σ' _ S2 => bk D os1 as1 st1 γ σ' H1 o st' S2 q P
end
end UX

set_option Elab.async false
set_option linter.all false
set_option maxRecDepth 100000
set_option maxHeartbeats 4000000
set_option autoImplicit false
namespace UX
open PySem PySem.Spec PyProof.Rows L2
open EL (Ex RB BOk Bn TK rEqU rNeU rLtU iSeqU)
/-! ### what is in the store -/
def leafU : U → Bool
  | .lst _ => false
  | .dct _ _ => false
  | .dcT _ _ => false
  | _ => true
def leafO (u : U) : Option U := if leafU u = true then some u else none
def flatO (u : U) : Option U := match u with
  | .lst us => if us.all leafU = true then some u else none
  | _ => none
section
variable {G : Cxt} {rs : List Addr} {B : Bn} {H : Hp}
theorem leaf_ownF {u : U} {v : V} {A : List Addr} (h : leafU u = true) : ownF G rs B u v H A ↔ A = [] ∧ im G rs B u v H := by
  cases u <;> first | (cases h; done) | exact Iff.rfl
theorem flat_ownFs : ∀ {us : List U} {vs : List V} {A : List Addr}, us.all leafU = true → (ownFs G rs B us vs H A ↔ A = [] ∧ imAll G rs B us vs H)
  | [], vs, A, _ => ⟨fun h => ⟨h.2, h.1⟩, fun h => ⟨h.2, h.1⟩⟩
  | u :: us, vs, A, h => by
    have h' := Bool.and_eq_true_iff.mp (show (leafU u && us.all leafU) = true from h)
    constructor
    · rintro ⟨v, r, A1, A2, e1, e2, h1, h2⟩
      obtain ⟨z1, q1⟩ := (leaf_ownF h'.1).mp h1
      obtain ⟨z2, q2⟩ := (flat_ownFs h'.2).mp h2
      exact ⟨by rw [e2, z1, z2]; rfl, v, r, e1, q1, q2⟩
    · rintro ⟨e, v, r, e1, h1, h2⟩
      exact ⟨v, r, [], [], e1, e, (leaf_ownF h'.1).mpr ⟨rfl, h1⟩, (flat_ownFs h'.2).mpr ⟨rfl, h2⟩⟩
end
/-- new, and wholly one's own -/
def EvNF (F : Fr) (te : TE) (δ : Dl) (w : M U) : Prop := ∀ os as st γ σ H a st', SDo F os as st γ H σ δ → w st = some (.ok a, st') → ∀ QQ : VK, (∀ v H' as' A, Go as as' H H' → (∀ k, k ∉ os.map (·.1) → SDo F ((k, A) :: os) as' st' γ H' σ δ) → ownF F.G (rts as') (ban F ((0, A) :: os) as') a v H' A → (∀ a ∈ A, H a = none) → QQ v H') → te σ H QQ
def EvANF (F : Fr) (ta : TA) (δ : Dl) (w : M (List U)) : Prop := ∀ os as st γ σ H us st', SDo F os as st γ H σ δ → w st = some (.ok us, st') → ∀ QQ : List V → Hp → Prop, (∀ vs H' as' A, Go as as' H H' → (∀ k, k ∉ os.map (·.1) → SDo F ((k, A) :: os) as' st' γ H' σ δ) → ownFs F.G (rts as') (ban F ((0, A) :: os) as') us vs H' A → (∀ a ∈ A, H a = none) → QQ vs H') → ta σ H QQ
section
variable {F : Fr} {δ : Dl} {te : TE} {ta : TA} {w : M U} {wl : M (List U)}
theorem SDo.grow0 {os : Os} {as : SA} {st : Sto} {γ : List (U × V)} {H : Hp} {σ : L2.St} {k : Nat} (S : SDo F os as st γ H σ δ) (hk : k ∉ os.map (·.1)) : SDo F ((k, []) :: os) as st γ H σ δ := by
  refine ⟨S.gh, S.rel, S.ok, S.nd, List.nodup_cons.mpr ⟨hk, S.ix⟩, S.new, S.nb, S.sto, S.len, fun i s e => ?_⟩
  obtain ⟨v, h1, h2⟩ := S.at_ i s e
  refine ⟨v, h1, ?_⟩
  match s, h2 with
  | .im u, h2 => exact h2
  | .raw _, h2 => exact h2
  | .own sh u, ⟨A, m, h2⟩ => exact ⟨A, List.mem_cons_of_mem _ m, h2⟩
theorem enf_leaf (h : EvW F te δ w) : EvNF F te δ (.bind w fun u => .o (leafO u)) := fun os as st γ σ H c st' S q QQ k => by
  obtain ⟨u, st1, qu, q⟩ := M.bind_inv q
  obtain ⟨e, rfl⟩ := M.o_inv q
  unfold leafO at e
  by_cases hl : leafU u = true
  · rw [if_pos hl] at e
    cases e
    exact h os as st γ σ H _ _ S qu _ fun v H1 as1 g1 S1 p => k v H1 as1 [] g1 (fun k hk => S1.grow0 hk) ((leaf_ownF hl).mpr ⟨rfl, p⟩) (fun a m => nomatch m)
  · rw [if_neg hl] at e; cases e
theorem enf_flat (h : EvN F (.lst .leaf) te δ w) : EvNF F te δ (.bind w fun u => .o (flatO u)) := fun os as st γ σ H c st' S q QQ k => by
  obtain ⟨u, st1, qu, q⟩ := M.bind_inv q
  obtain ⟨e, rfl⟩ := M.o_inv q
  refine h os as st γ σ H u _ S qu _ fun v H1 as1 A g1 S1 p n => ?_
  cases u with
  | lst us => ?_
  | _ => cases e
  simp only [flatO] at e
  by_cases hl : us.all leafU = true
  · rw [if_pos hl] at e
    cases e
    obtain ⟨a, vs, e1, e2, h1, q⟩ := own_lst.mp p
    exact k v H1 as1 A g1 S1 ⟨a, vs, [], e1, e2, h1, (flat_ownFs hl).mpr ⟨rfl, q⟩⟩ n
  · rw [if_neg hl] at e; cases e
theorem eanf_nil : EvANF F tNil δ nilA := fun os as st γ σ H us st' S q QQ k => by
  cases q
  exact k [] H as [] (Go.refl _ _) (fun k hk => S.grow0 hk) ⟨rfl, rfl⟩ (fun a m => nomatch m)
/-- two lots of one's own are one -/
theorem SDo.merge {os : Os} {as : SA} {st : Sto} {γ : List (U × V)} {H : Hp} {σ : L2.St} {k1 k2 k : Nat} {A1 A2 : List Addr} (S : SDo F ((k2, A2) :: (k1, A1) :: os) as st γ H σ δ) (h1 : δ.length ≤ k1) (h2 : δ.length ≤ k2) (hk : k ∉ os.map (·.1)) : SDo F ((k, A1 ++ A2) :: os) as st γ H σ δ := by
  have bb : ∀ a, ban F ((k, A1 ++ A2) :: os) as a ↔ ban F ((k2, A2) :: (k1, A1) :: os) as a := fun a => by
    rw [ban_cons, ban_cons, ban_cons, List.mem_append]
    constructor
    · rintro ((h | h) | h)
      · exact .inr (.inl h)
      · exact .inl h
      · exact .inr (.inr h)
    · rintro (h | h | h)
      · exact .inl (.inr h)
      · exact .inl (.inl h)
      · exact .inr h
  have up : ∀ u v, im F.G (rts as) (ban F ((k2, A2) :: (k1, A1) :: os) as) u v H → im F.G (rts as) (ban F ((k, A1 ++ A2) :: os) as) u v H := fun u v h => im_sub (fun a _ b => (bb a).mp b) _ _ h
  have fm : ∀ a, a ∈ flo ((k, A1 ++ A2) :: os) → a ∈ flo ((k2, A2) :: (k1, A1) :: os) := fun a m => by
    rw [flo_cons, List.mem_append, List.mem_append] at m
    rw [flo_cons, flo_cons, List.mem_append, List.mem_append]
    rcases m with (m | m) | m
    · exact .inr (.inl m)
    · exact .inl m
    · exact .inr (.inr m)
  refine ⟨fun p m => up _ _ (S.gh p m), S.rel, fun a b => S.ok a ((bb a).mp b), ?_, List.nodup_cons.mpr ⟨hk, (List.nodup_cons.mp (List.nodup_cons.mp S.ix).2).2⟩, fun a m => S.new a (fm a m), fun a z => S.nb a (z.imp (fm a) id), StOk.mono up (fun _ _ h => h) (fun _ _ => rfl) S.sto, S.len, fun i s e => ?_⟩
  · have nd : (A2 ++ (A1 ++ flo os) ++ fl as).Nodup := S.nd
    show (A1 ++ A2 ++ flo os ++ fl as).Nodup
    have pm : (A1 ++ A2 ++ flo os ++ fl as).Perm (A2 ++ (A1 ++ flo os) ++ fl as) := by
      rw [← List.append_assoc A2]
      exact ((List.perm_append_comm (l₁ := A1) (l₂ := A2)).append_right (flo os)).append_right (fl as)
    exact pm.nodup_iff.mpr nd
  · obtain ⟨v, q1, q2⟩ := S.at_ i s e
    refine ⟨v, q1, ?_⟩
    match s, q2 with
    | .im u, q2 => exact up _ _ q2
    | .raw _, q2 => exact q2
    | .own sh u, ⟨A, m, q2⟩ =>
      refine ⟨A, List.mem_cons_of_mem _ ?_, own_mono up (fun _ _ h => h) _ _ _ _ (fun _ _ => rfl) q2⟩
      have il := getElem?_lt e
      rcases List.mem_cons.mp m with z | m
      · have : i = k2 := (Prod.mk.inj z).1
        omega
      · rcases List.mem_cons.mp m with z | m
        · have : i = k1 := (Prod.mk.inj z).1
          omega
        · exact m
theorem eanf_cons {tr : TA} {wr : M (List U)} (h : EvNF F te δ w) (hr : EvANF F tr δ wr) : EvANF F (tCons te tr) δ (consA w wr) := fun os as st γ σ H us st' S q QQ k => by
  obtain ⟨a, st1, qa, q⟩ := M.bind_inv q
  obtain ⟨r, st2, qr, q⟩ := M.bind_inv q
  cases q
  refine h os as st γ σ H a _ S qa _ fun x H1 as1 A1 g1 S1 p1 n1 => ?_
  obtain ⟨k1, hk1, hl1⟩ := nodup_fresh (os.map (·.1)) δ.length
  refine hr _ as1 st1 γ σ H1 r _ (S1 k1 hk1) qr _ fun vs H2 as2 A2 g2 S2 p2 n2 => ?_
  obtain ⟨k2, hk2, hl2⟩ := nodup_fresh (((k1, A1) :: os).map (·.1)) δ.length
  refine k (x :: vs) H2 as2 (A1 ++ A2) (g1.trans g2) (fun k hk => (S2 k2 hk2).merge hl1 hl2 hk) ⟨x, vs, A1, A2, rfl, rfl, ?_, ?_⟩ fun a m => ?_
  · have S3 := S2 k2 hk2
    have al : ∀ a ∈ A1, H1 a ≠ none := fun a m => (S1 k1 hk1).ok a (.inr (.inl (List.mem_append_left _ m)))
    refine ownF_mono (fun u v z => ?_) _ _ _ (fun a m => ?_) p1
    · have z1 : im F.G (rts as1) (ban F ((k2, A2) :: (k1, A1) :: os) as1) u v H1 := im_sub (sub_cons n2) _ _ z
      have z2 := im_go (os := (k2, A2) :: (k1, A1) :: os) g2 z1
      refine im_sub (fun a _ b => ?_) _ _ z2
      rw [ban_cons, List.mem_append] at b
      rw [ban_cons, ban_cons]
      rcases b with (h | h) | h
      · exact .inr (.inl h)
      · exact .inl h
      · exact .inr (.inr h)
    · cases e : H1 a with
      | none => exact absurd e (al a m)
      | some o => exact g2.rb.keep a o (fun q => (List.nodup_append.mp (S1 k1 hk1).nd).2.2 a (List.mem_append_left _ m) a q rfl) e
  · refine ownFs_mono (fun u v z => im_sub (fun a _ b => ?_) _ _ z) _ _ _ (fun _ _ => rfl) p2
    rw [ban_cons, List.mem_append] at b
    rw [ban_cons, ban_cons]
    rcases b with (h | h) | h
    · exact .inr (.inl h)
    · exact .inl h
    · exact .inr (.inr h)
  · rcases List.mem_append.mp m with z | z
    · exact n1 a z
    · exact g1.fresh (n2 a z)
theorem enf_lst (h : EvANF F ta δ wl) : EvNF F (tLst ta) δ (lstW wl) := fun os as st γ σ H c st' S q QQ k => by
  obtain ⟨us, st1, qa, q⟩ := M.bind_inv q
  obtain ⟨e, rfl⟩ := M.o_inv q
  by_cases hl : us.length ≤ sizeLine
  · rw [if_pos hl] at e
    cases e
    refine h os as st γ σ H us _ S qa _ fun vs H1 as1 A g1 S1 pv n => ⟨by rw [ownFs_len pv]; exact hl, fun p hp => ?_⟩
    obtain ⟨k1, hk1, hl1⟩ := nodup_fresh (os.map (·.1)) δ.length
    obtain ⟨k2, hk2, hl2⟩ := nodup_fresh (((k1, A) :: os).map (·.1)) δ.length
    have S2 := (S1 k1 hk1).grow hk2 hp (Ex.new (o := .lst vs) hp) (by rw [upd_same]; exact fun z => nomatch z)
    have npA : ∀ a ∈ A, a ≠ p := fun a m z => by
      have := (S1 k1 hk1).ok a (.inr (.inl (List.mem_append_left _ m)))
      rw [z] at this; exact this hp
    have bb : ∀ a, ban F ((0, p :: A) :: os) as1 a → ban F ((k2, [p]) :: (k1, A) :: os) as1 a := fun a b => by
      rw [ban_cons, List.mem_cons] at b
      rw [ban_cons, ban_cons, List.mem_singleton]
      rcases b with (h | h) | h
      · exact .inl h
      · exact .inr (.inl h)
      · exact .inr (.inr h)
    refine k (.ref p) _ as1 (p :: A) (g1.trans (Go.of_ex (Ex.new hp))) (fun k hk => ?_) ⟨p, vs, A, rfl, rfl, upd_same, ?_⟩ fun a m => ?_
    · have := S2.merge (k := k) hl1 hl2 hk
      have pm : ∀ a, a ∈ A ++ [p] ↔ a ∈ p :: A := fun a => by rw [List.mem_append, List.mem_singleton, List.mem_cons]; exact Or.comm
      have cm : ∀ a, ban F ((k, p :: A) :: os) as1 a → ban F ((k, A ++ [p]) :: os) as1 a := fun a b => by
        rw [ban_cons] at b ⊢
        exact b.imp (pm a).mpr id
      have up : ∀ u v, im F.G (rts as1) (ban F ((k, A ++ [p]) :: os) as1) u v (upd H1 p (.lst vs)) → im F.G (rts as1) (ban F ((k, p :: A) :: os) as1) u v (upd H1 p (.lst vs)) := fun u v h => im_sub (fun a _ b => cm a b) _ _ h
      refine ⟨fun q m => up _ _ (this.gh q m), this.rel, fun a b => this.ok a (cm a b), ?_, this.ix, fun a m => this.new a ?_, fun a z => this.nb a (z.imp (fun m => ?_) id), StOk.mono up (fun _ _ h => h) (fun _ _ => rfl) this.sto, this.len, fun i s e => ?_⟩
      · have nd := this.nd
        have pp : ((p :: A) ++ flo os ++ fl as1).Perm ((A ++ [p]) ++ flo os ++ fl as1) := ((List.perm_append_comm (l₁ := [p]) (l₂ := A)).append_right (flo os)).append_right (fl as1)
        exact pp.nodup_iff.mpr nd
      · rw [flo_cons, List.mem_append] at m ⊢
        exact m.imp (pm a).mpr id
      · rw [flo_cons, List.mem_append] at m ⊢
        exact m.imp (pm a).mpr id
      · obtain ⟨v, q1, q2⟩ := this.at_ i s e
        refine ⟨v, q1, ?_⟩
        match s, q2 with
        | .im u, q2 => exact up _ _ q2
        | .raw _, q2 => exact q2
        | .own sh u, ⟨C, m, q2⟩ =>
          rcases List.mem_cons.mp m with z | m
          · have il := getElem?_lt e
            have m1 := S2.at_ i _ e
            obtain ⟨v', _, C', m', q'⟩ := m1
            rcases List.mem_cons.mp m' with z' | m'
            · have : i = k2 := (Prod.mk.inj z').1
              omega
            · rcases List.mem_cons.mp m' with z' | m'
              · have : i = k1 := (Prod.mk.inj z').1
                omega
              · exact absurd (List.mem_map_of_mem (f := (·.1)) m') (by rw [show (i, C').1 = k from (Prod.mk.inj z).1]; exact hk)
          · exact ⟨C, List.mem_cons_of_mem _ m, own_mono up (fun _ _ h => h) _ _ _ _ (fun _ _ => rfl) q2⟩
    · refine ownFs_mono (fun u v z => ?_) _ _ _ (fun a m => upd_ne (npA a m)) pv
      have z1 : im F.G (rts as1) (ban F ((k2, [p]) :: (k1, A) :: os) as1) u v H1 := im_sub (sub_cons fun a m => by rw [List.mem_singleton] at m; rw [m]; exact hp) _ _ z
      exact im_sub (fun a _ b => bb a b) _ _ (im_st (RB.of_ex (Ex.new hp)) _ _ z1)
    · rcases List.mem_cons.mp m with z | z
      · rw [z]; exact g1.fresh hp
      · exact n a z
  · rw [if_neg hl] at e; cases e
/-- it goes to the store -/
def allocM (u : U) : M U := fun st => some (.ok (.loc st.length), st ++ [u])
theorem StOk.snoc {G : Cxt} {B : Bn} {rs : List Addr} {H : Hp} {p : Addr × List Addr} {u : U} (h : ownC G rs B u (.ref p.1) H p.2) : ∀ {as : SA} {st : Sto}, StOk G B rs as st H → StOk G B rs (as ++ [p]) (st ++ [u]) H
  | [], [], _ => ⟨h, trivial⟩
  | _ :: _, _ :: _, ⟨h1, h2⟩ => ⟨h1, StOk.snoc h h2⟩
theorem ownC_of {G : Cxt} {rs : List Addr} {B : Bn} {H : Hp} {u : U} {v : V} {A : List Addr} (hu : ∀ c ns us, u ≠ .obj c ns us) (h : ownF G rs B u v H A) : ownC G rs B u v H A := by
  cases u <;> first | exact h | exact absurd rfl (hu _ _ _)
def lstO (u : U) : Option U := match u with
  | .lst _ => some u
  | _ => none
theorem blk_retC {S L : Type} {δn : S → Dl} {δl : L → Dl} (h : EvNF F te δ w) : Blk F (tRet te) δ (rtO (.bind w fun u => .bind (.o (lstO u)) allocM) : M (Out S L)) δn δl := fun D os as st γ σ H o st' Q q P => by
  obtain ⟨l, st1, ql, q⟩ := M.bind_inv q
  obtain ⟨u, st2, qu, ql2⟩ := M.bind_inv ql
  obtain ⟨u', st3, qx, ql3⟩ := M.bind_inv ql2
  obtain ⟨eu, rfl⟩ := M.o_inv qx
  clear ql ql2
  cases ql3; cases q
  refine h os as st γ σ H u _ Q qu _ fun v H1 as1 A g1 S1 p n => ?_
  cases u with
  | lst us => ?_
  | _ => cases eu
  cases eu
  obtain ⟨a, vs, A', e1, e2, e3, q⟩ := id p
  obtain ⟨k1, hk1, hl1⟩ := nodup_fresh (os.map (·.1)) δ.length
  have S2 := S1 k1 hk1
  have fle : fl (as1 ++ [(a, A)]) = fl as1 ++ A := by simp [fl]
  have rle : rts (as1 ++ [(a, A)]) = rts as1 ++ [a] := by simp [rts]
  have bb : ∀ b, ban F [] (as1 ++ [(a, A)]) b → ban F ((k1, A) :: os) as1 b := fun b z => by
    rw [ban_cons]
    rcases z with z | z | z
    · exact .inr (.inl z)
    · cases z
    · rw [fle, List.mem_append] at z
      exact z.elim (fun z => .inr (.inr (.inr z))) .inl
  have rsx : ∀ (i : Nat) (b : Addr), (rts as1)[i]? = some b → (rts (as1 ++ [(a, A)]))[i]? = some b := fun i b e => by
    rw [rle, List.getElem?_append_left (getElem?_lt e)]; exact e
  have up : ∀ u v, im F.G (rts as1) (ban F ((k1, A) :: os) as1) u v H1 → im F.G (rts (as1 ++ [(a, A)])) (ban F [] (as1 ++ [(a, A)])) u v H1 := fun u v h => im_sub (fun b _ z => bb b z) _ _ (im_rs rsx _ _ h)
  have nd : (A ++ (flo os ++ fl as1)).Nodup := by rw [← List.append_assoc]; exact S2.nd
  refine P (as1 ++ [(a, A)]) v H1 ⟨⟨S2.rel.rb, fun i b e => rsx i b (S2.rel.pre i b e), fun b m => ?_⟩, fun b z => S2.ok b (bb b z), ?_, fun b m => ?_, ?_, ?_⟩
  · rw [fle, List.mem_append] at m
    rcases m with m | m
    · exact S2.rel.new b m
    · exact .inr (S2.new b (List.mem_append_left _ m))
  · rw [fle]
    have nd' := List.nodup_append.mp nd
    exact List.nodup_append.mpr ⟨(List.nodup_append.mp nd'.2.1).2.1, nd'.1, fun b m c m' e => by subst e; exact nd'.2.2 b m' b (List.mem_append_right _ m) rfl⟩
  · rw [fle, List.mem_append] at m
    exact m.elim (fun m => S2.nb b (.inr m)) fun m => S2.nb b (.inl (List.mem_append_left _ m))
  · refine StOk.snoc (ownC_of (fun c ns us z => by cases z) ?_) (StOk.mono up (fun _ _ h => h) (fun _ _ => rfl) S2.sto)
    rw [← e1]
    exact ownF_mono up _ _ _ (fun _ _ => rfl) p
  · refine ⟨a, ?_, e1⟩
    rw [rle]
    have le : (rts as1).length = st3.length := (by unfold rts; rw [List.length_map]; exact S2.sto.len)
    rw [← le, List.getElem?_append_right (Nat.le_refl _), Nat.sub_self]
    rfl
end
end UX

set_option Elab.async false
set_option linter.all false
set_option maxRecDepth 100000
set_option maxHeartbeats 4000000
set_option autoImplicit false
namespace UX
open PySem PySem.Spec PyProof.Rows L2
open EL (Ex RB BOk Bn TK rEqU rNeU rLtU iSeqU)
/-! ### a place within the store -/
def ownR (G : Cxt) (rs : List Addr) (B : Bn) : Bool → U → V → Hp → List Addr → Prop
  | true => ownC G rs B
  | false => ownF G rs B
structure HoleC (F : Fr) (os : Os) (as : SA) (H : Hp) (r : Bool) (i : Nat) (h : Hl) (v : V) : Prop where
  ex : ∃ a A A1 A' A2, as[i]? = some (a, A) ∧ A = A1 ++ (A' ++ A2) ∧ ownR F.G (rts as) (ban F os as) r h.1 v H A' ∧
    ∀ rs2 B2 H2 u2 A'2, (∀ u v, im F.G (rts as) (ban F os as) u v H → im F.G rs2 B2 u v H2) → (∀ a, a ∈ A1 ∨ a ∈ A2 → H2 a = H a) →
      ownR F.G rs2 B2 r u2 v H2 A'2 → ownC F.G rs2 B2 (h.2 u2) (.ref a) H2 (A1 ++ (A'2 ++ A2))
abbrev Cl := Nat × Hl
def EvC (F : Fr) (r : Bool) (te : TE) (δ : Dl) (w : M Cl) : Prop := ∀ os as st γ σ H c st', SDo F os as st γ H σ δ → w st = some (.ok c, st') → ∀ QQ : VK, (∀ v H' as', Go as as' H H' → SDo F os as' st' γ H' σ δ → HoleC F os as' H' r c.1 c.2 v → QQ v H') → te σ H QQ
/-- nothing happens -/
def EvQ (F : Fr) (te : TE) (δ : Dl) (w : M U) : Prop := ∀ os as st γ σ H a st', SDo F os as st γ H σ δ → w st = some (.ok a, st') → st' = st ∧ ∀ QQ : VK, (∀ v, im F.G (rts as) (ban F os as) a v H → QQ v H) → te σ H QQ
def locM (u : U) : M Cl := fun st => match u with
  | .loc i => match st[i]? with
    | some x => some (.ok (i, (x, id)), st)
    | none => none
  | _ => none
section
variable {F : Fr} {os : Os} {as : SA} {st : Sto} {γ : List (U × V)} {H : Hp} {σ : L2.St} {δ : Dl}
theorem StOk.get {G : Cxt} {B : Bn} {rs : List Addr} : ∀ {as : SA} {st : Sto} {i : Nat} {p : Addr × List Addr} {u : U}, StOk G B rs as st H → as[i]? = some p → st[i]? = some u → ownC G rs B u (.ref p.1) H p.2
  | p :: as, s :: st, 0, _, _, ⟨h1, _⟩, e1, e2 => by simp at e1 e2; subst e1 e2; exact h1
  | p :: as, s :: st, i + 1, _, _, ⟨_, h2⟩, e1, e2 => StOk.get (i := i) h2 (by simpa using e1) (by simpa using e2)
  | [], [], _, _, _, _, e, _ => by simp at e
theorem ec_loc {te : TE} {w : M U} (h : EvW F te δ w) : EvC F true te δ (.bind w locM) := fun os as st γ σ H c st' S q QQ k => by
  obtain ⟨u, st1, qu, q⟩ := M.bind_inv q
  refine h os as st γ σ H u _ S qu _ fun v H1 as1 g1 S1 p => ?_
  cases u with
  | loc i => ?_
  | _ => cases q
  obtain ⟨a, ea, ev⟩ := p
  cases es : st1[i]? with
  | none => simp only [locM, es] at q; cases q
  | some x =>
    simp only [locM, es] at q
    cases q
    obtain ⟨⟨a', A⟩, e1, e2⟩ : ∃ p, as1[i]? = some p ∧ p.1 = a := by
      unfold rts at ea
      rw [List.getElem?_map] at ea
      obtain ⟨p, h1, h2⟩ := Option.map_eq_some_iff.mp ea
      exact ⟨p, h1, h2⟩
    simp only at e2
    subst e2
    have := S1.sto.get e1 es
    rw [← ev] at this
    exact k v H1 as1 g1 S1 ⟨a', A, [], A, [], e1, by simp, this, fun rs2 B2 H2 u2 A'2 _ _ o2 => by rw [← ev]; have o2 : ownC F.G rs2 B2 u2 v H2 A'2 := o2; simpa using o2⟩
theorem eq_int {i : Int} : EvQ F (tC (.int i)) δ (.ret (.int i)) := fun os as st γ σ H a st' S q => by
  cases q; exact ⟨rfl, fun QQ k => k _ rfl⟩
theorem eq_var {i : Nat} {u : U} (h : δ[i]? = some (some (.im u))) : EvQ F (tVar i) δ (.ret u) := fun os as st γ σ H a st' S q => by
  cases q
  obtain ⟨v, e, p⟩ := S.get h
  exact ⟨rfl, fun QQ k => ⟨v, e, k v p⟩⟩
theorem eq_neg {ta : TE} {wa : M U} (h : EvQ F ta δ wa) : EvQ F (tUn (rU fun i => .int (-i)) ta) δ (op1 negU wa) := fun os as st γ σ H c st' S q => by
  obtain ⟨a, st1, qa, q⟩ := M.bind_inv q
  obtain ⟨e, rfl⟩ := M.o_inv q
  obtain ⟨e1, hh⟩ := h os as st γ σ H a _ S qa
  refine ⟨e1, fun QQ k => hh _ fun x px => ?_⟩
  cases a <;> simp [negU] at e
  subst e
  exact ⟨_, px, k _ rfl⟩
def ixC (c : Cl) (n : U) : Option Cl := match c.2.1 with
  | .lst _ => (ixH c.2 n).map fun h => (c.1, h)
  | _ => none
theorem ec_ix {r : Bool} {te ti : TE} {w : M Cl} {wi : M U} (h : EvC F r te δ w) (hi : EvQ F ti δ wi) : EvC F false (tOp (rIx F.G.K) te ti) δ (.bind w fun c => .bind wi fun n => .o (ixC c n)) := fun os as st γ σ H c st' S q QQ k => by
  obtain ⟨c1, st1, q1, q⟩ := M.bind_inv q
  obtain ⟨n, st2, q2, q⟩ := M.bind_inv q
  obtain ⟨e, rfl⟩ := M.o_inv q
  refine h os as st γ σ H c1 st1 S q1 _ fun x H1 as1 g1 S1 p1 => ?_
  obtain ⟨rfl, hq⟩ := hi os as1 st1 γ σ H1 n _ S1 q2
  refine hq _ fun y py => ?_
  obtain ⟨a, A, A1, A', A2, e0, eA, o, pl⟩ := p1.ex
  obtain ⟨i, u1, f1⟩ := c1
  cases u1 with
  | lst us =>
    cases n with
    | int n => ?_
    | _ => cases e
    have o : ownF F.G (rts as1) (ban F os as1) (.lst us) x H1 A' := by cases r <;> exact o
    obtain ⟨b, vs, B, e1, e2, e3, z⟩ := o
    simp only [ixC, ixH] at e
    cases ej : ixN us.length n with
    | none => rw [ej] at e; cases e
    | some j =>
      rw [ej] at e
      simp only at e
      cases eu : us[j]? with
      | none => rw [eu] at e; cases e
      | some u =>
        rw [eu] at e
        simp only [Option.map_some] at e
        cases e
        obtain ⟨v, B1, B', B2, f1', f2, f3, f4⟩ := ownFs_split z eu
        refine .inl ⟨b, vs, n, v, e1, py, .inl (.inl e3), ixN_eq (by rw [ownFs_len z]; exact ej) f1', ?_⟩
        refine k v H1 as1 g1 S1 ⟨a, A, A1 ++ b :: B1, B', B2 ++ A2, e0, by rw [eA, e2, f2]; simp, f3, fun rs2 B2' H3 u2 A'2 t1 t3 o2 => ?_⟩
        have := pl rs2 B2' H3 (.lst (us.set j u2)) (b :: (B1 ++ (A'2 ++ B2))) t1 (fun b z => t3 b (z.imp (fun z => List.mem_append_left _ z) fun z => List.mem_append_right _ z)) (by
          have : ownF F.G rs2 B2' (.lst (us.set j u2)) x H3 (b :: (B1 ++ (A'2 ++ B2))) := ⟨b, vs, B1 ++ (A'2 ++ B2), e1, rfl, by rw [t3 b (.inl (List.mem_append_right _ List.mem_cons_self))]; exact e3, f4 rs2 B2' H3 u2 A'2 t1 (fun b z => t3 b (z.imp (fun z => List.mem_append_right _ (List.mem_cons_of_mem _ z)) fun z => List.mem_append_left _ z)) o2⟩
          cases r <;> exact this)
        simpa using this
  | _ => cases e
def valC (c : Cl) : Option U := leafO c.2.1
theorem ev_cell {r : Bool} {te : TE} {w : M Cl} (h : EvC F false te δ w) : EvW F te δ (.bind w fun c => .o (valC c)) := fun os as st γ σ H c st' S q QQ k => by
  obtain ⟨c1, st1, q1, q⟩ := M.bind_inv q
  obtain ⟨e, rfl⟩ := M.o_inv q
  refine h os as st γ σ H c1 _ S q1 _ fun x H1 as1 g1 S1 p1 => ?_
  obtain ⟨a, A, A1, A', A2, e0, eA, o, pl⟩ := p1.ex
  unfold valC leafO at e
  by_cases hl : leafU c1.2.1 = true
  · rw [if_pos hl] at e
    cases e
    exact k x H1 as1 g1 S1 ((leaf_ownF hl).mp o).2
  · rw [if_neg hl] at e; cases e
/-- a cell is changed -/
def putC (i : Nat) (u : U) : M Unit := fun st => if i < st.length then some (.ok (), st.set i u) else none
theorem StOk.upd {G : Cxt} {B : Bn} {rs : List Addr} {H H' : Hp} {a : Addr} (hk : ∀ u v, im G rs B u v H → im G rs B u v H') (ht : ∀ a xs, H a = some (.tup xs) → H' a = some (.tup xs)) : ∀ {as : SA} {st : Sto} {i : Nat} {p : Addr × List Addr} {u : U}, (fl as).Nodup → StOk G B rs as st H → as[i]? = some p → a ∈ p.2 → (∀ b, b ≠ a → H' b = H b) → ownC G rs B u (.ref p.1) H' p.2 → StOk G B rs as (st.set i u) H'
  | q :: as, s :: st, 0, p, u, nd, ⟨h1, h2⟩, e, ma, kp, o => by
    simp at e; subst e
    have nd' := List.nodup_append.mp (show (q.2 ++ fl as).Nodup from nd)
    exact ⟨o, StOk.mono hk ht (fun b m => kp b fun z => nd'.2.2 a ma b m z.symm) h2⟩
  | q :: as, s :: st, i + 1, p, u, nd, ⟨h1, h2⟩, e, ma, kp, o => by
    have nd' := List.nodup_append.mp (show (q.2 ++ fl as).Nodup from nd)
    have e' : as[i]? = some p := by simpa using e
    exact ⟨ownC_mono hk _ _ _ (fun b m => kp b fun z => nd'.2.2 b m a (mem_fl (List.mem_of_getElem? e') ma) z) h1, StOk.upd hk ht nd'.2.1 h2 e' ma kp o⟩
  | [], [], _, _, _, _, _, e, _, _, _ => by simp at e
/-- one list of the store is changed -/
theorem SDo.cell (S : SDo F os as st γ H σ δ) {i : Nat} {a b : Addr} {A : List Addr} {vs vs' : List V} {u : U} (e0 : as[i]? = some (a, A)) (mb : b ∈ A) (e : H b = some (.lst vs)) (o : ownC F.G (rts as) (ban F os as) u (.ref a) (upd H b (.lst vs')) A) :
    SDo F os as (st.set i u) γ (upd H b (.lst vs')) σ δ ∧ Go as as H (upd H b (.lst vs')) ∧ ∀ u v, im F.G (rts as) (ban F os as) u v H → im F.G (rts as) (ban F os as) u v (upd H b (.lst vs')) := by
  have mf : b ∈ fl as := mem_fl (List.mem_of_getElem? e0) mb
  have rb : RB (· ∈ fl as) H (upd H b (.lst vs')) := by
    refine ⟨fun c o n h => by rw [upd_ne (fun (z : c = b) => n (by rw [z]; exact mf))]; exact h, fun c xs h => by rw [upd_ne (ne_of h e (by intro z; cases z))]; exact h, fun c o x h => by rw [upd_ne (ne_of h e (by intro z; cases z))]; exact h, fun c _ n => ?_⟩
    by_cases z : c = b
    · rw [z, upd_same]; exact fun q => nomatch q
    · rw [upd_ne z]; exact n
  have g : Go as as H (upd H b (.lst vs')) := ⟨rb, fun _ _ h => h, fun _ h => .inl h⟩
  have hk : ∀ u v, im F.G (rts as) (ban F os as) u v H → im F.G (rts as) (ban F os as) u v (upd H b (.lst vs')) := fun u v h => im_go g h
  have nd := (List.nodup_append.mp S.nd).2.1
  refine ⟨S.go g nd (StOk.upd hk (fun c xs h => rb.tup c xs h) nd S.sto e0 mb (fun c n => upd_ne n) o) fun c m => g.alive (S.ok c (.inr (.inr m))), g, hk⟩
def setItC (c : Cl) (n x : U) : Option Cl := match c.2.1, n with
  | .lst us, .int n => if leafU x = true then match ixN us.length n with
    | some j => match us[j]? with
      | some o => if leafU o = true then some (c.1, (c.2.2 (.lst (us.set j x)), id)) else none
      | none => none
    | none => none else none
  | _, _ => none
theorem StOk.lt {G : Cxt} {B : Bn} {rs : List Addr} {i : Nat} {p : Addr × List Addr} (h : StOk G B rs as st H) (e : as[i]? = some p) : i < st.length := by
  have := getElem?_lt e
  rw [h.len] at this
  exact this
theorem ownFs_set {G : Cxt} {rs rs2 : List Addr} {B B2 : Bn} {H H2 : Hp} {x w : U} {xv : V} (hx : leafU x = true) (hw : leafU w = true) (px : im G rs2 B2 x xv H2) (t : ∀ u v, im G rs B u v H → im G rs2 B2 u v H2) : ∀ {us : List U} {vs : List V} {A : List Addr} {j : Nat}, us[j]? = some w → (∀ c ∈ A, H2 c = H c) → ownFs G rs B us vs H A → ownFs G rs2 B2 (us.set j x) (vs.set j xv) H2 A
  | [], _, _, _, e, _, _ => by simp at e
  | u :: us, _, A, 0, e, k, ⟨v, r, A1, A2, e1, e2, h1, h2⟩ => by
    simp at e; subst e e1
    obtain ⟨z, _⟩ := (leaf_ownF hw).mp h1
    subst z
    exact ⟨xv, r, [], A2, rfl, e2, (leaf_ownF hx).mpr ⟨rfl, px⟩, ownFs_mono t us r A2 (fun c m => k c (by rw [e2]; exact m)) h2⟩
  | u :: us, _, A, j + 1, e, k, ⟨v, r, A1, A2, e1, e2, h1, h2⟩ => by
    subst e1
    exact ⟨v, r.set j xv, A1, A2, rfl, e2, ownF_mono t u v A1 (fun c m => k c (by rw [e2]; exact List.mem_append_left _ m)) h1, ownFs_set hx hw px t (j := j) (by simpa using e) (fun c m => k c (by rw [e2]; exact List.mem_append_right _ m)) h2⟩
theorem imAll_map {G : Cxt} {rs rs2 : List Addr} {B B2 : Bn} {H H2 : Hp} (t : ∀ u v, im G rs B u v H → im G rs2 B2 u v H2) : ∀ {us : List U} {vs : List V}, imAll G rs B us vs H → imAll G rs2 B2 us vs H2
  | [], _, h => h
  | u :: us, _, ⟨v, w, e, h1, h2⟩ => ⟨v, w, e, t _ _ h1, imAll_map t h2⟩
theorem sa_nodup {a : Addr} {A : List Addr} : ∀ (l : SA) (i : Nat), (fl l).Nodup → l[i]? = some (a, A) → A.Nodup := by
  intro l
  induction l with
  | nil => intro i _ e; simp at e
  | cons p l ih =>
    intro i nd e
    have nd' := List.nodup_append.mp (show (p.2 ++ fl l).Nodup from nd)
    cases i with
    | zero => simp at e; rw [show A = p.2 by rw [e]]; exact nd'.1
    | succ i => exact ih i nd'.2.1 (by simpa using e)
/-- the list at a place of the store gets other things -/
theorem HoleC.setL {r : Bool} {i : Nat} {us us' : List U} {f : U → U} {cv : V} (p : HoleC F os as H r i (.lst us, f) cv) (S : SDo F os as st γ H σ δ) :
    ∃ b vs B, cv = .ref b ∧ H b = some (.lst vs) ∧ ownFs F.G (rts as) (ban F os as) us vs H B ∧ b ∉ B ∧ i < st.length ∧ ∀ vs', (∀ H2, (∀ u v, im F.G (rts as) (ban F os as) u v H → im F.G (rts as) (ban F os as) u v H2) → (∀ c ∈ B, H2 c = H c) → ownFs F.G (rts as) (ban F os as) us' vs' H2 B) → SDo F os as (st.set i (f (.lst us'))) γ (upd H b (.lst vs')) σ δ := by
  obtain ⟨a, A, A1, A', A2, e0, eA, ow, pl⟩ := p.ex
  have ow : ownF F.G (rts as) (ban F os as) (.lst us) cv H A' := by cases r <;> exact ow
  obtain ⟨b, vs, B, e1, e2, e3, z⟩ := ow
  have mb : b ∈ A := by rw [eA, e2]; exact List.mem_append_right _ List.mem_cons_self
  have nd := sa_nodup as i (List.nodup_append.mp S.nd).2.1 e0
  rw [eA, e2] at nd
  have nd1 := List.nodup_append.mp nd
  have nd2 := List.nodup_cons.mp nd1.2.1
  have nB : b ∉ B := fun m => nd2.1 (List.mem_append_left _ m)
  refine ⟨b, vs, B, e1, e3, z, nB, S.sto.lt e0, fun vs' hv => ?_⟩
  have mf : b ∈ fl as := mem_fl (List.mem_of_getElem? e0) mb
  have rb : RB (· ∈ fl as) H (L2.upd H b (.lst vs')) := by
    refine ⟨fun c o n h => by rw [upd_ne (fun (z : c = b) => n (by rw [z]; exact mf))]; exact h, fun c xs h => by rw [upd_ne (ne_of h e3 (by intro z; cases z))]; exact h, fun c o x h => by rw [upd_ne (ne_of h e3 (by intro z; cases z))]; exact h, fun c _ n => ?_⟩
    by_cases z : c = b
    · rw [z, upd_same]; exact fun q => nomatch q
    · rw [upd_ne z]; exact n
  have g : Go as as H (L2.upd H b (.lst vs')) := ⟨rb, fun _ _ h => h, fun _ h => .inl h⟩
  refine (S.cell e0 mb e3 (vs' := vs') ?_).1
  have := pl (rts as) (ban F os as) (L2.upd H b (.lst vs')) (.lst us') A' (fun u v h => im_go g h) (fun c z => upd_ne fun e => ?_) (by
    have : ownF F.G (rts as) (ban F os as) (.lst us') cv (L2.upd H b (.lst vs')) A' := ⟨b, vs', B, e1, e2, upd_same, hv _ (fun u v h => im_go g h) fun c m => upd_ne fun e => nB (by rw [← e]; exact m)⟩
    cases r <;> exact this)
  · rw [eA]; exact this
  · subst e
    rcases z with z | z
    · exact nd1.2.2 c z c List.mem_cons_self rfl
    · exact nd2.1 (List.mem_append_right _ z)
/-- hand[n] = x -/
theorem blk_setC {S L : Type} {δn : S → Dl} {δl : L → Dl} {r : Bool} {te to ti : TE} {t2 : TS} {we wi : M U} {wc : M Cl} {k : M (Out S L)} (he : EvW F te δ we) (hc : EvC F r to δ wc) (hi : EvQ F ti δ wi) (h2 : Blk F t2 δ k δn δl) :
    Blk F (tSeq (tAsg te (gSub to ti rSetL)) t2) δ (.bind we fun x => .bind wc fun c => .bind wi fun n => .bind (.o (setItC c n x)) fun d => .bind (putC d.1 d.2.1) fun _ => k) δn δl := fun D os as st γ σ H o st' Q q P => by
  obtain ⟨x, st1, q1, q⟩ := M.bind_inv q
  obtain ⟨c, st2, q2, q⟩ := M.bind_inv q
  obtain ⟨n, st3, q3, q⟩ := M.bind_inv q
  obtain ⟨d, st4, q4, q⟩ := M.bind_inv q
  obtain ⟨_, st5, q5, q⟩ := M.bind_inv q
  obtain ⟨ed, rfl⟩ := M.o_inv q4
  refine he os as st γ σ H x st1 Q q1 _ fun xv H1 as1 g1 S1 px => hc os as1 st1 γ σ H1 c st2 S1 q2 _ fun cv H2 as2 g2 S2 p2 => ?_
  obtain ⟨rfl, hq⟩ := hi os as2 st2 γ σ H2 n _ S2 q3
  refine hq _ fun y py => ?_
  have px := im_go g2 px
  obtain ⟨i, u1, f1⟩ := c
  cases u1 with
  | lst us =>
    cases n with
    | int n => ?_
    | _ => cases ed
    simp only [setItC] at ed
    by_cases hl : leafU x = true
    · rw [if_pos hl] at ed
      cases ej : ixN us.length n with
      | none => rw [ej] at ed; cases ed
      | some j =>
        rw [ej] at ed
        simp only at ed
        cases eo : us[j]? with
        | none => rw [eo] at ed; cases ed
        | some w =>
          rw [eo] at ed
          simp only at ed
          by_cases hw : leafU w = true
          · rw [if_pos hw] at ed
            cases ed
            obtain ⟨b, vs, B, e1, e3, z, nB, lt, fin⟩ := p2.setL (us' := us.set j x) S2
            unfold putC at q5
            simp only [lt, if_true] at q5
            cases q5
            refine ⟨b, vs, n, j, e1, py, e3, by rw [ownFs_len z]; exact ej, h2 D os as2 _ γ σ _ o st' (fin _ fun H3 t kp => ownFs_set hl hw (t _ _ px) t eo kp z) q P⟩
          · rw [if_neg hw] at ed; cases ed
    · rw [if_neg hl] at ed; cases ed
  | _ => cases ed
def mutC (f : List U → List U → Option (U × List U)) (c : Cl) (xs : List U) : Option (U × Cl) := match c.2.1 with
  | .lst us => if us.all leafU = true ∧ xs.all leafU = true then match f us xs with
    | some p => if p.2.all leafU = true then some (p.1, (c.1, (c.2.2 (.lst p.2), id))) else none
    | none => none else none
  | _ => none
/-- hand[0].pop(0) -/
theorem blk_mutC {S L : Type} {δn : S → Dl} {δl : L → Dl} {r : Bool} {to ti : TE} {t2 : TS} {wi : M U} {wc : M Cl} {k : M (Out S L)} {rr : V → List V → Hp → VK → Prop} {f : List U → List U → Option (U × List U)} (hm : MutL F rr f) (hc : EvC F r to δ wc) (hi : EvQ F ti δ wi) (h2 : Blk F t2 δ k δn δl) :
    Blk F (tSeq (tDrop (tBM F.G.K "list" rr to (tCons ti tNil))) t2) δ (.bind wc fun c => .bind wi fun n => .bind (.o (mutC f c [n])) fun d => .bind (putC d.2.1 d.2.2.1) fun _ => k) δn δl := fun D os as st γ σ H o st' Q q P => by
  obtain ⟨c, st2, q2, q⟩ := M.bind_inv q
  obtain ⟨n, st3, q3, q⟩ := M.bind_inv q
  obtain ⟨d, st4, q4, q⟩ := M.bind_inv q
  obtain ⟨_, st5, q5, q⟩ := M.bind_inv q
  obtain ⟨ed, rfl⟩ := M.o_inv q4
  refine hc os as st γ σ H c st2 Q q2 _ fun cv H2 as2 g2 S2 p2 => ?_
  obtain ⟨rfl, hq⟩ := hi os as2 st2 γ σ H2 n _ S2 q3
  obtain ⟨i, u1, f1⟩ := c
  cases u1 with
  | lst us =>
    simp only [mutC] at ed
    by_cases hl : us.all leafU = true ∧ [n].all leafU = true
    · rw [if_pos hl] at ed
      cases ef : f us [n] with
      | none => rw [ef] at ed; cases ed
      | some p =>
        rw [ef] at ed
        simp only at ed
        by_cases hp : p.2.all leafU = true
        · rw [if_pos hp] at ed
          cases ed
          obtain ⟨b, vs, B, e1, e3, z, nB, lt, fin⟩ := p2.setL (us' := p.2) S2
          unfold putC at q5
          simp only [lt, if_true] at q5
          cases q5
          obtain ⟨zB, hv⟩ := (flat_ownFs hl.1).mp z
          subst e1 zB
          refine ⟨.inl ⟨rfl, vs, EL.sqL_of e3⟩, hq _ fun y py => ?_⟩
          obtain ⟨v, vs', h1, h2', h3⟩ := hm os as2 H2 b vs us [n] [y] p e3 hv ⟨y, [], rfl, py, rfl⟩ ef
          exact h3 _ (h2 D os as2 _ γ σ _ o st' (fin vs' fun H3 t kp => (flat_ownFs hp).mpr ⟨rfl, imAll_map t h1⟩) q P)
        · rw [if_neg hp] at ed; cases ed
    · rw [if_neg hl] at ed; cases ed
  | _ => cases ed
mutual
theorem ownF_im0 : ∀ (u : U) (v : V) (A : List Addr), ownF F.G (rts as) (ban F os as) u v H A → im F.G (rts as) noB u v H
  | .lst us, v, A, ⟨a, vs, A', e1, e2, h, q⟩ => ⟨a, vs, e1, fun z => z, h, ownFs_im0 us vs A' q⟩
  | .dct ks us, v, A, ⟨a, vs, A', e1, e2, h, l, q⟩ => ⟨a, vs, e1, fun z => z, .inl h, l, ownFs_im0 us vs A' q⟩
  | .dcT ks us, v, A, ⟨a, vs, A', e1, e2, h, l, q⟩ => ⟨a, vs, e1, fun z => z, .inl h, l, ownFs_im0 us vs A' q⟩
  | .non, v, A, h => sub0 h.2
  | .bl _, v, A, h => sub0 h.2
  | .int _, v, A, h => sub0 h.2
  | .str _, v, A, h => sub0 h.2
  | .tup _, v, A, h => sub0 h.2
  | .obj _ _ _, v, A, h => sub0 h.2
  | .top _, v, A, h => sub0 h.2
  | .frl _, v, A, h => sub0 h.2
  | .loc _, v, A, h => sub0 h.2
theorem ownFs_im0 : ∀ (us : List U) (vs : List V) (A : List Addr), ownFs F.G (rts as) (ban F os as) us vs H A → imAll F.G (rts as) noB us vs H
  | [], _, _, h => h.1
  | u :: us, _, A, ⟨v, r, A1, A2, e1, e2, h1, h2⟩ => ⟨v, r, e1, ownF_im0 u v A1 h1, ownFs_im0 us r A2 h2⟩
end
theorem ownR_im0 {r : Bool} {u : U} {v : V} {A : List Addr} (h : ownR F.G (rts as) (ban F os as) r u v H A) : im F.G (rts as) noB u v H := by
  cases r with
  | false => exact ownF_im0 u v A h
  | true =>
    cases u with
    | obj c ns us => obtain ⟨a, dx, vs, A', e1, e2, h, l, q⟩ := h; exact ⟨a, dx, vs, e1, fun z => z, h, l, ownFs_im0 us vs A' q⟩
    | _ => exact ownF_im0 _ v A h
/-- hand[0] != [] -/
theorem neU_l (a : U) (b : List U) : neU a (.lst b) = neD a (.lst b) := by cases a <;> rfl
theorem ev_neC {r : Bool} {te : TE} {w : M Cl} (h : EvC F r te δ w) : EvW F (tOp (rNeU F.G.K) te (tLst tNil)) δ (.bind w fun c => .o (neU c.2.1 (.lst []))) := fun os as st γ σ H c st' S q QQ k => by
  obtain ⟨c1, st1, q1, q⟩ := M.bind_inv q
  obtain ⟨e, rfl⟩ := M.o_inv q
  refine h os as st γ σ H c1 _ S q1 _ fun x H1 as1 g1 S1 p1 => ⟨Nat.zero_le _, fun p hp => ?_⟩
  obtain ⟨a, A, A1, A', A2, e0, eA, o, pl⟩ := p1.ex
  have px := im_st (RB.of_ex (B := noB) (Ex.new (o := .lst []) hp)) _ _ (ownR_im0 o)
  rw [neU_l] at e
  unfold neD at e
  cases e1 : pd c1.2.1 with
  | none => rw [e1] at e; cases e
  | some d =>
    rw [e1] at e
    have e2 : pd (.lst []) = some (.list []) := rfl
    rw [e2] at e
    simp only at e
    split at e
    · rename_i hs
      cases e
      exact .inl ⟨d, .list [], im_dp _ _ _ px e1, .lst (EL.sqL_of upd_same) .nil, hs.1, hs.2, k _ _ as1 (g1.trans (Go.of_ex (Ex.new hp))) (S1.ex (Ex.new hp)) rfl⟩
    · cases e
end
end UX

set_option Elab.async false
set_option linter.all false
set_option maxRecDepth 100000
set_option maxHeartbeats 4000000
set_option autoImplicit false
namespace UX
open PySem PySem.Spec PyProof.Rows L2
open EL (Ex RB BOk Bn TK FnG okG)
/-! ### defs that reach no repr -/
section
variable {P : Program} {w : World} {K : PySem.W.Frag} {mg : Str → Option Value} {bs : Heap} {CX : CXT} {x qu : Str} {pa : Arguments} {bo : List Stmt} {sc : Scope} {dv : List V} {kw : List (Str × V)} {f : Addr} {fd : FuncData}
theorem fn_okF {at_ : Str → Addr} {N ps : List Str} {k : Nat} {fM : List U → M U} (Fd : FunD K x qu pa bo sc dv kw f fd) (Sc : FnScope N ps sc)
    (hlen : ∀ us st r, fM us st = some r → us.length = ps.length)
    (hb : ∀ (cv : Value) (A : Around) (o : List Env) (s : Shared) (H : Hp) (E : XK), Room k (A.deeper (envOfC qu sc s.heap.objs.size f cv)) →
      ∃ t, PSs (cxOf CX P w K mg bs N qu sc f cv A o s H E) bo t ∧ ∀ B H0 as0 us st r, fM us st = some r → ∃ wo : M (Out Unit Unit), fM us = fnM wo ∧ Blk ⟨⟨K, at_⟩, B, H0, as0⟩ t (stD N us) wo (fun _ => dnil N) (fun _ => dnil N)) :
    FnOk P w K mg bs CX (k + 1) f fd ps (spM ⟨K, at_⟩ fM) := by
  refine Fd.ok Sc (fun vs H Q E h => ?_) fun cv A o s H vs Q E rm hsp => ?_
  · obtain ⟨B, as, st, us, u, st', _, _, _, _, hi, hf, _⟩ := h
    rw [imAll_len hi]
    exact hlen us st _ hf
  · obtain ⟨B, as, st, us, u, st', ok, nd, nb, sto, hi, hf, kk⟩ := hsp
    obtain ⟨t, ht, hB⟩ := hb cv A o s H E rm
    refine ⟨t, ht, ?_⟩
    obtain ⟨wo, e, bl⟩ := hB B H as us st _ hf
    rw [e] at hf
    obtain ⟨o', st1, q1, q⟩ := M.bind_inv hf
    refine bl _ [] as st [] _ H o' st1 (SDo.start (F := ⟨⟨K, at_⟩, B, H, as⟩) ok nd nb sto hi) q1 ?_
    cases o' with
    | rt u' => cases q; exact fun as' v H' r => kk as' v H' r
    | nx _ => cases q; exact fun os as' σ H' S => kk as' _ H' (S.rt rfl)
    | bk _ => cases q
    | ct _ => cases q
end
/-! ### fields -/
def lookF (f : Str) : List Str → List U → Option U
  | n :: ns, u :: us => if n = f then some u else lookF f ns us
  | _, _ => none
def fldU (cs : List Str) (f : Str) : U → Option U
  | .obj c ns us => if c ∈ cs then lookF f ns us else none
  | _ => none
theorem look_zip {G : Cxt} {rs : List Addr} {B : Bn} {H : Hp} {f : Str} : ∀ {ns : List Str} {us : List U} {vs : List V} {u : U}, imAll G rs B us vs H → lookF f ns us = some u → ∃ v, (ns.zip vs).lookup f = some v ∧ im G rs B u v H
  | n :: ns, u :: us, _, u', ⟨v, r, e, h1, h2⟩, el => by
    subst e
    unfold lookF at el
    by_cases z : n = f
    · rw [if_pos z] at el
      cases el
      refine ⟨v, ?_, h1⟩
      rw [List.zip_cons_cons, List.lookup_cons, z]
      simp
    · rw [if_neg z] at el
      obtain ⟨v', e1, e2⟩ := look_zip h2 el
      refine ⟨v', ?_, e2⟩
      rw [List.zip_cons_cons, List.lookup_cons]
      have : (f == n) = false := by simpa using fun q => z q.symm
      rw [this]
      exact e1
  | [], _, _, _, _, el => by cases el
  | _ :: _, [], _, _, _, el => by cases el
section
variable {F : Fr} {δ : Dl} {te ta : TE} {w : M U}
theorem ev_fld {cs : List Str} {f : Str} (hc : ∀ c ∈ cs, Cls F.G.K (F.G.at_ c) ∧ NoAttr F.G.K (F.G.at_ c) f) (h : EvR F ta δ w) : EvW F (tFld F.G.K ta f) δ (op1 (fldU cs f) w) := fun os as st γ σ H c st' S q QQ k => by
  obtain ⟨u, st1, qu, q⟩ := M.bind_inv q
  obtain ⟨e, rfl⟩ := M.o_inv q
  refine h os as st γ σ H u _ S qu _ fun v H1 as1 g1 S1 p => ?_
  cases u with
  | obj c0 ns us => ?_
  | _ => cases e
  simp only [fldU] at e
  by_cases hm : c0 ∈ cs
  · rw [if_pos hm] at e
    obtain ⟨a, dx, vs, e1, _, e3, l, hv⟩ := p
    obtain ⟨x, e4, e5⟩ := look_zip hv e
    exact ⟨a, F.G.at_ c0, dx, _, x, e1, e3, (hc c0 hm).1, (hc c0 hm).2, e4, k x H1 as1 g1 S1 e5⟩
  · rw [if_neg hm] at e; cases e
/-! ### methods -/
def isObj (c m : Str) : U → Option U
  | .obj c' ns us => if c' = c ∧ lookF m ns us = none ∧ ns.length = us.length then some (.obj c' ns us) else none
  | _ => none
theorem look_none {m : Str} : ∀ {ns : List Str} {us : List U} {vs : List V}, ns.length = us.length → vs.length = us.length → lookF m ns us = none → (ns.zip vs).lookup m = none
  | [], _, _, _, _, _ => rfl
  | n :: ns, [], _, l, _, _ => by cases l
  | n :: ns, u :: us, [], _, l, _ => by cases l
  | n :: ns, u :: us, v :: vs, l1, l2, e => by
    unfold lookF at e
    by_cases z : n = m
    · rw [if_pos z] at e; cases e
    · rw [if_neg z] at e
      rw [List.zip_cons_cons, List.lookup_cons]
      have : (m == n) = false := by simpa using fun q => z q.symm
      rw [this]
      exact look_none (by simpa using l1) (by simpa using l2) e
def methM (c m : Str) (f : List U → M U) (wo : M U) (wa : M (List U)) : M U := .bind wo fun o => .bind (.o (isObj c m o)) fun _ => .bind wa fun us => f (o :: us)
theorem ev_meth {c m : Str} {E : XK} {f : List U → M U} {t : TA} {wa : M (List U)} (ho : EvW F ta δ w) (ha : EvAW F t δ wa) : EvW F (tMeth (F.G.at_ c) m (spM F.G f) [] E ta t) δ (methM c m f w wa) := fun os as st γ σ H r st' S q QQ k => by
  obtain ⟨o, st1, qo, q1⟩ := M.bind_inv q
  obtain ⟨o2, st2, qi, q2⟩ := M.bind_inv q1
  obtain ⟨us, st3, qa, q3⟩ := M.bind_inv q2
  obtain ⟨ei, rfl⟩ := M.o_inv qi
  clear q q1 q2
  have q := q3
  clear q3
  refine ho os as st γ σ H o _ S qo _ fun x H1 as1 g1 S1 px => ?_
  cases o with
  | obj c' ns vs0 => ?_
  | _ => cases ei
  simp only [isObj] at ei
  split at ei
  case isFalse => cases ei
  rename_i hc
  obtain ⟨a, dx, vs, e1, nb, e3, l, hv⟩ := id px
  refine ⟨a, dx, _, e1, by rw [← hc.1]; exact e3, look_none l (imAll_len hv) hc.2.1, ?_⟩
  refine ha os as1 st2 γ σ H1 us st3 S1 qa _ fun vs2 H2 as2 g2 S2 pv => ?_
  rw [List.append_nil]
  obtain ⟨ok, nb2, e⟩ := S2.enter
  refine ⟨fun a => F.B a ∨ a ∈ flo os, as2, st3, _ :: us, r, st', ok, (List.nodup_append.mp S2.nd).2.1, nb2, StOk.mono (fun _ _ h => im_sub (fun a _ b => (e a).mp b) _ _ h) (fun _ _ h => h) (fun _ _ => rfl) S2.sto, ⟨x, vs2, rfl, im_sub (fun a _ b => (e a).mp b) _ _ (im_go g2 px), imAll_sub (fun a _ b => (e a).mp b) _ _ pv⟩, q, fun as' v H' rr => ?_⟩
  obtain ⟨S3, p⟩ := S2.leave rr
  exact k v H' as' ((g1.trans g2).trans rr.rel) S3 p
/-- a method handed things of one's own -/
def methB (c m : Str) (f : List U → M U) (wo : M U) (wa : M (List U)) : M U := .bind wo fun o => .bind (.o (isObj c m o)) fun _ => .bind wa fun us st => match f (o :: us) (opq st) with
  | some (.ok u, _) => if immU u = true then some (.ok u, st) else none
  | _ => none
theorem ev_methB {c m : Str} {E : XK} {f : List U → M U} {t : TA} {wa : M (List U)} (ho : EvR F ta δ w) (ha : EvAR F t δ wa) : EvW F (tMeth (F.G.at_ c) m (spM F.G f) [] E ta t) δ (methB c m f w wa) := fun os as st γ σ H r st' S q QQ k => by
  obtain ⟨o, st1, qo, q1⟩ := M.bind_inv q
  obtain ⟨o2, st2, qi, q2⟩ := M.bind_inv q1
  obtain ⟨us, st3, qa, q3⟩ := M.bind_inv q2
  obtain ⟨ei, rfl⟩ := M.o_inv qi
  clear q q1 q2
  have q := q3
  clear q3
  refine ho os as st γ σ H o _ S qo _ fun x H1 as1 g1 S1 px => ?_
  cases o with
  | obj c' ns vs0 => ?_
  | _ => cases ei
  simp only [isObj] at ei
  split at ei
  case isFalse => cases ei
  rename_i hc
  obtain ⟨a, dx, vs, e1, nb, e3, l, hv⟩ := id px
  refine ⟨a, dx, _, e1, by rw [← hc.1]; exact e3, look_none l (imAll_len hv) hc.2.1, ?_⟩
  refine ha os as1 st2 γ σ H1 us st3 S1 qa _ fun vs2 H2 as2 g2 S2 pv => ?_
  cases e : f (.obj c' ns vs0 :: us) (opq st3) with
  | none => rw [e] at q; cases q
  | some p =>
    rw [e] at q
    match p, e, q with
    | (.ok u, st4), e, q =>
      by_cases hi : immU u = true
      · simp only [hi, if_true] at q
        cases q
        exact ev_borrow (us := .obj c' ns vs0 :: us) (vs := x :: vs2) S2 ⟨x, vs2, rfl, rd_go g2 px, pv⟩ e fun v H' as' ex _ _ p => k v H' as2 ((g1.trans g2).trans (Go.of_ex ex)) (S2.ex ex) (im_imm _ _ hi p)
      · simp only [hi] at q; cases q
    | (.er _, _), e, q => cases q
end
end UX

set_option Elab.async false
set_option linter.all false
set_option maxRecDepth 100000
set_option maxHeartbeats 4000000
set_option autoImplicit false
namespace UX
open PySem PySem.Spec PyProof.Rows L2
open EL (Ex RB BOk Bn TK FnG okG)
/-! ### no places of the store within -/
mutual
def nlU : U → Bool
  | .tup us => nlA us
  | .lst us => nlA us
  | .dct _ us => nlA us
  | .dcT _ us => nlA us
  | .obj _ _ us => nlA us
  | .frl us => nlA us
  | .loc _ => false
  | _ => true
def nlA : List U → Bool
  | [] => true
  | u :: us => nlU u && nlA us
end
section
variable {G : Cxt} {rs rs' : List Addr} {B : Bn} {H : Hp}
mutual
theorem im_nl : ∀ (u : U) (v : V), nlU u = true → im G rs B u v H → im G rs' B u v H
  | .non, _, _, h => h
  | .bl _, _, _, h => h
  | .int _, _, _, h => h
  | .str _, _, _, h => h
  | .tup us, _, p, ⟨a, vs, e, t, q⟩ => ⟨a, vs, e, t, imAll_nl us vs p q⟩
  | .lst us, _, p, ⟨a, vs, e, n, t, q⟩ => ⟨a, vs, e, n, t, imAll_nl us vs p q⟩
  | .dct ks us, _, p, ⟨a, vs, e, n, t, l, q⟩ => ⟨a, vs, e, n, t, l, imAll_nl us vs p q⟩
  | .dcT ks us, _, p, ⟨a, vs, e, n, t, l, q⟩ => ⟨a, vs, e, n, t, l, imAll_nl us vs p q⟩
  | .obj c ns us, _, p, ⟨a, dx, vs, e, n, t, l, q⟩ => ⟨a, dx, vs, e, n, t, l, imAll_nl us vs p q⟩
  | .top _, _, _, h => h
  | .frl us, _, p, ⟨a, vs, e, t, q⟩ => ⟨a, vs, e, t, imAll_nl us vs p q⟩
  | .loc _, _, p, _ => nomatch p
theorem imAll_nl : ∀ (us : List U) (vs : List V), nlA us = true → imAll G rs B us vs H → imAll G rs' B us vs H
  | [], _, _, h => h
  | u :: us, _, p, ⟨v, w, e, h1, h2⟩ => ⟨v, w, e, im_nl u v (Bool.and_eq_true_iff.mp p).1 h1, imAll_nl us w (Bool.and_eq_true_iff.mp p).2 h2⟩
end
mutual
/-- what is wholly owned, given away -/
theorem ownF_im : ∀ (u : U) (v : V) (A : List Addr), (∀ a ∈ A, ¬ B a) → ownF G rs B u v H A → im G rs B u v H
  | .lst us, v, A, n, ⟨a, vs, A', e1, e2, h, q⟩ => ⟨a, vs, e1, n a (by rw [e2]; exact List.mem_cons_self), h, ownFs_im us vs A' (fun b m => n b (by rw [e2]; exact List.mem_cons_of_mem _ m)) q⟩
  | .dct ks us, v, A, n, ⟨a, vs, A', e1, e2, h, l, q⟩ => ⟨a, vs, e1, n a (by rw [e2]; exact List.mem_cons_self), .inl h, l, ownFs_im us vs A' (fun b m => n b (by rw [e2]; exact List.mem_cons_of_mem _ m)) q⟩
  | .dcT ks us, v, A, n, ⟨a, vs, A', e1, e2, h, l, q⟩ => ⟨a, vs, e1, n a (by rw [e2]; exact List.mem_cons_self), .inl h, l, ownFs_im us vs A' (fun b m => n b (by rw [e2]; exact List.mem_cons_of_mem _ m)) q⟩
  | .non, v, A, _, h => h.2
  | .bl _, v, A, _, h => h.2
  | .int _, v, A, _, h => h.2
  | .str _, v, A, _, h => h.2
  | .tup _, v, A, _, h => h.2
  | .obj _ _ _, v, A, _, h => h.2
  | .top _, v, A, _, h => h.2
  | .frl _, v, A, _, h => h.2
  | .loc _, v, A, _, h => h.2
theorem ownFs_im : ∀ (us : List U) (vs : List V) (A : List Addr), (∀ a ∈ A, ¬ B a) → ownFs G rs B us vs H A → imAll G rs B us vs H
  | [], _, _, _, h => h.1
  | u :: us, _, A, n, ⟨v, r, A1, A2, e1, e2, h1, h2⟩ => ⟨v, r, e1, ownF_im u v A1 (fun b m => n b (by rw [e2]; exact List.mem_append_left _ m)) h1, ownFs_im us r A2 (fun b m => n b (by rw [e2]; exact List.mem_append_right _ m)) h2⟩
end
theorem ownC_im {u : U} {v : V} {A : List Addr} (n : ∀ a ∈ A, ¬ B a) (h : ownC G rs B u v H A) : im G rs B u v H := by
  cases u with
  | obj c ns us => obtain ⟨a, dx, vs, A', e1, e2, h, l, q⟩ := h; exact ⟨a, dx, vs, e1, n a (by rw [e2]; exact List.mem_cons_self), h, l, ownFs_im us vs A' (fun b m => n b (by rw [e2]; exact List.mem_cons_of_mem _ m)) q⟩
  | _ => exact ownF_im _ v A n h
end
/-! ### objects made -/
def mkM (c : Str) (f : List U → M U) (wa : M (List U)) : M U := .bind wa fun us st => match f (.loc st.length :: us) (opq st ++ [.obj c [] []]) with
  | some (.ok .non, st') => match st'[st.length]? with
    | some u => if nlU u = true then some (.ok u, st) else none
    | none => none
  | _ => none
section
variable {F : Fr} {δ : Dl} {ta : TA} {wa : M (List U)} {E : XK} {f : List U → M U} {c : Str}
theorem ev_make (h : EvAW F ta δ wa) : EvW F (tMake (F.G.at_ c) (spM F.G f) [] E ta) δ (mkM c f wa) := fun os as st γ σ H r st' S q QQ k => by
  obtain ⟨us, st1, qa, q1⟩ := M.bind_inv q
  clear q
  refine h os as st γ σ H us st1 S qa _ fun vs H1 as1 g1 S1 pv x dx hx hdx ne => ?_
  rw [List.append_nil]
  cases e : f (.loc st1.length :: us) (opq st1 ++ [.obj c [] []]) with
  | none => rw [e] at q1; cases q1
  | some p =>
    rw [e] at q1
    match p, e, q1 with
    | (.ok .non, st2), e, q1 =>
      simp only at q1
      cases eu : st2[st1.length]? with
      | none => rw [eu] at q1; cases q1
      | some u =>
        rw [eu] at q1
        simp only at q1
        by_cases hn : nlU u = true
        · rw [if_pos hn] at q1
          obtain ⟨rfl, rfl⟩ : u = r ∧ st1 = st' := by cases q1; exact ⟨rfl, rfl⟩
          have hH : Ex H1 (upd (upd H1 dx (.own x)) x (.ins (F.G.at_ c) dx [])) := (Ex.new hdx).trans (Ex.new (by rw [upd_ne ne.symm]; exact hx))
          have fle : fl ((as1.map fun p => (p.1, [])) ++ [(x, [x])]) = [x] := by
            have := fl_opq as1
            unfold fl at this ⊢
            rw [List.map_append, List.flatten_append, this]
            rfl
          have rle : rts ((as1.map fun p => (p.1, [])) ++ [(x, [x])]) = rts as1 ++ [x] := by
            have := rts_opq as1
            unfold rts at this ⊢
            rw [List.map_append, this]
            rfl
          have rlen : (rts as1).length = st1.length := by unfold rts; rw [List.length_map]; exact S1.sto.len
          have rsx : ∀ (i : Nat) (b : Addr), (rts as1)[i]? = some b → (rts as1 ++ [x])[i]? = some b := fun i b e => by
            rw [List.getElem?_append_left (getElem?_lt e)]; exact e
          have ab : ∀ (H0 : Hp) (as0 : SA) a, ban ⟨F.G, ban F os as1, H0, as0⟩ [] ((as1.map fun p => (p.1, [])) ++ [(x, [x])]) a → ban F os as1 a ∨ a = x := by
            rintro H0 as0 a (h | h | h)
            · exact .inl h
            · cases h
            · rw [fle, List.mem_singleton] at h; exact .inr h
          have nbx : ¬ ban F os as1 x := S1.notban hx
          have up : ∀ (H0 : Hp) (as0 : SA) u v, im F.G (rts as1) (ban F os as1) u v H1 → im F.G (rts ((as1.map fun p => (p.1, [])) ++ [(x, [x])])) (ban ⟨F.G, ban F os as1, H0, as0⟩ [] ((as1.map fun p => (p.1, [])) ++ [(x, [x])])) u v (upd (upd H1 dx (.own x)) x (.ins (F.G.at_ c) dx [])) := fun H0 as0 u v h => by
            rw [rle]
            have h1 : im F.G (rts as1) (fun a => ban F os as1 a ∨ a = x) u v H1 := im_sub (fun a n b => b.elim id fun z => absurd (z ▸ hx) n) _ _ h
            exact im_sub (fun a _ b => ab H0 as0 a b) _ _ (im_st (RB.of_ex hH) _ _ (im_rs rsx _ _ h1))
          refine ⟨ban F os as1, (as1.map fun p => (p.1, [])) ++ [(x, [x])], opq st1 ++ [.obj c [] []], .loc st1.length :: us, .non, st2, fun a b => ?_, by rw [fle]; simp, fun a m => ?_, ?_, ⟨.ref x, vs, rfl, ⟨x, ?_, rfl⟩, imAll_map (up _ _) pv⟩, e, fun as' v H' rr => ?_⟩
          · rcases ab _ _ a b with z | z
            · exact (Go.of_ex (as := as1) hH).alive (S1.ok a z)
            · rw [z, upd_same]; exact fun q => nomatch q
          · rw [fle, List.mem_singleton] at m; rw [m]; exact nbx
          · refine StOk.snoc ?_ ?_
            · exact ⟨x, dx, [], [], rfl, rfl, upd_same, rfl, rfl, rfl⟩
            · have := StOk.opq (G := F.G) (B := ban ⟨F.G, ban F os as1, upd (upd H1 dx (.own x)) x (.ins (F.G.at_ c) dx []), (as1.map fun p => (p.1, [])) ++ [(x, [x])]⟩ [] ((as1.map fun p => (p.1, [])) ++ [(x, [x])])) (H := upd (upd H1 dx (.own x)) x (.ins (F.G.at_ c) dx [])) as1 st1 S1.sto.len
              rw [rle]
              exact StOk.mono (fun u v h => im_rs rsx _ _ h) (fun _ _ h => h) (fun _ _ => rfl) this
          · rw [rle, ← rlen, List.getElem?_append_right (Nat.le_refl _), Nat.sub_self]; rfl
          · refine ⟨rr.im, ?_⟩
            have exH : ∀ a o, H1 a = some o → H' a = some o := fun a o h => rr.rel.rb.keep a o (by
              show a ∉ fl _
              rw [fle, List.mem_singleton]
              exact fun z => by rw [z, hx] at h; cases h) (hH a o h)
            have ex : Ex H1 H' := exH
            obtain ⟨pp, ep⟩ : ∃ pp, as'[st1.length]? = some pp := by
              have : st1.length < as'.length := by rw [rr.sto.len]; exact getElem?_lt eu
              exact ⟨_, List.getElem?_eq_getElem this⟩
            have hroot : pp.1 = x := by
              have h1 := rr.rel.pre st1.length x (by rw [show rts _ = rts as1 ++ [x] from rle, ← rlen, List.getElem?_append_right (Nat.le_refl _), Nat.sub_self]; rfl)
              unfold rts at h1
              rw [List.getElem?_map, ep] at h1
              exact Option.some.inj h1
            have oc := rr.sto.get ep eu
            rw [hroot] at oc
            have nA : ∀ a ∈ pp.2, ¬ ban F os as1 a := fun a m => rr.nb a (mem_fl (List.mem_of_getElem? ep) m)
            have oc2 : ownC F.G (rts as') (ban F os as1) u (.ref x) H' pp.2 := ownC_mono (fun u v h => im_sub (fun a _ b => .inl b) _ _ h) _ _ _ (fun _ _ => rfl) oc
            exact k (.ref x) H' as1 (g1.trans (Go.of_ex ex)) (S1.ex ex) (im_nl _ _ hn (ownC_im nA oc2))
        · rw [if_neg hn] at q1; cases q1
    | (.er _, _), e, q1 => cases q1
end
end UX

set_option Elab.async false
set_option linter.all false
set_option maxRecDepth 100000
set_option maxHeartbeats 4000000
set_option autoImplicit false
namespace UX
open PySem PySem.Spec PyProof.Rows L2
open EL (Ex RB BOk Bn TK FnG okG)
/-! ### fields of what is in the store -/
def idxF (f : Str) : List Str → Option Nat
  | [] => none
  | n :: ns => if n = f then some 0 else (idxF f ns).map (· + 1)
theorem idx_zip {f : Str} : ∀ {ns : List Str} {vs : List V} {j : Nat} {v : V}, idxF f ns = some j → vs[j]? = some v → (ns.zip vs).lookup f = some v
  | [], _, _, _, e, _ => by cases e
  | n :: ns, [], _, _, _, e => by simp at e
  | n :: ns, w :: vs, j, v, e, e2 => by
    unfold idxF at e
    rw [List.zip_cons_cons, List.lookup_cons]
    by_cases z : n = f
    · rw [if_pos z] at e
      cases e
      simp at e2
      rw [z, e2]; simp
    · rw [if_neg z] at e
      obtain ⟨j', e', rfl⟩ := Option.map_eq_some_iff.mp e
      have : (f == n) = false := by simpa using fun q => z q.symm
      rw [this]
      exact idx_zip e' (by simpa using e2)
theorem idx_none {f : Str} : ∀ {ns : List Str} {vs : List V}, idxF f ns = none → ns.length = vs.length → ∀ y, putF f y (ns.zip vs) = (ns ++ [f]).zip (vs ++ [y])
  | [], vs, _, l, y => by
    have : vs = [] := List.eq_nil_of_length_eq_zero l.symm
    subst this; rfl
  | n :: ns, [], _, l, _ => by cases l
  | n :: ns, v :: vs, e, l, y => by
    unfold idxF at e
    by_cases z : n = f
    · rw [if_pos z] at e; cases e
    · rw [if_neg z] at e
      have e' : idxF f ns = none := by
        cases q : idxF f ns with
        | none => rfl
        | some j => rw [q] at e; cases e
      show putF f y ((n, v) :: ns.zip vs) = _
      rw [putF, if_neg z, idx_none e' (by simpa using l) y]
      rfl
def fldC (cs : List Str) (f : Str) (c : Cl) : Option Cl := match c.2.1 with
  | .obj c0 ns us => if c0 ∈ cs then match idxF f ns with
    | some j => match us[j]? with
      | some u => some (c.1, (u, fun x => c.2.2 (.obj c0 ns (us.set j x))))
      | none => none
    | none => none else none
  | _ => none
section
variable {F : Fr} {os : Os} {as : SA} {st : Sto} {γ : List (U × V)} {H : Hp} {σ : L2.St} {δ : Dl}
theorem ec_fld {cs : List Str} {f : Str} {te : TE} {w : M Cl} (hc : ∀ c ∈ cs, Cls F.G.K (F.G.at_ c) ∧ NoAttr F.G.K (F.G.at_ c) f) (h : EvC F true te δ w) : EvC F false (tFld F.G.K te f) δ (.bind w fun c => .o (fldC cs f c)) := fun os as st γ σ H c st' S q QQ k => by
  obtain ⟨c1, st1, q1, q2⟩ := M.bind_inv q
  obtain ⟨e, rfl⟩ := M.o_inv q2
  refine h os as st γ σ H c1 _ S q1 _ fun x H1 as1 g1 S1 p1 => ?_
  obtain ⟨a, A, A1, A', A2, e0, eA, o, pl⟩ := p1.ex
  obtain ⟨i, u1, f1⟩ := c1
  cases u1 with
  | obj c0 ns us =>
    obtain ⟨b, dx, vs, B, e1, e2, e3, l, z⟩ := (show ownC F.G (rts as1) (ban F os as1) (.obj c0 ns us) x H1 A' from o)
    simp only [fldC] at e
    by_cases hm : c0 ∈ cs
    · rw [if_pos hm] at e
      cases ej : idxF f ns with
      | none => rw [ej] at e; cases e
      | some j =>
        rw [ej] at e
        simp only at e
        cases eu : us[j]? with
        | none => rw [eu] at e; cases e
        | some u =>
          rw [eu] at e
          simp only at e
          cases e
          obtain ⟨v, B1, B', B2, f1', f2, f3, f4⟩ := ownFs_split z eu
          refine ⟨b, F.G.at_ c0, dx, _, v, e1, e3, (hc c0 hm).1, (hc c0 hm).2, idx_zip ej f1', ?_⟩
          refine k v H1 as1 g1 S1 ⟨a, A, A1 ++ b :: B1, B', B2 ++ A2, e0, by rw [eA, e2, f2]; simp, f3, fun rs2 B2' H3 u2 A'2 t1 t3 o2 => ?_⟩
          have := pl rs2 B2' H3 (.obj c0 ns (us.set j u2)) (b :: (B1 ++ (A'2 ++ B2))) t1 (fun b z => t3 b (z.imp (fun z => List.mem_append_left _ z) fun z => List.mem_append_right _ z)) ⟨b, dx, vs, B1 ++ (A'2 ++ B2), e1, rfl, by rw [t3 b (.inl (List.mem_append_right _ List.mem_cons_self))]; exact e3, by rw [List.length_set]; exact l, f4 rs2 B2' H3 u2 A'2 t1 (fun b z => t3 b (z.imp (fun z => List.mem_append_right _ (List.mem_cons_of_mem _ z)) fun z => List.mem_append_left _ z)) o2⟩
          simpa using this
    · rw [if_neg hm] at e; cases e
  | _ => cases e
/-! ### what is one's own goes to the store -/
theorem fl_set {i : Nat} {x : Addr} {A0 A A1 : List Addr} (hp : A1.Perm (A0 ++ A)) : ∀ {as : SA}, as[i]? = some (x, A0) → (fl (as.set i (x, A1))).Perm (A ++ fl as) := by
  induction i with
  | zero =>
    intro as e
    cases as with
    | nil => simp at e
    | cons p as =>
      simp at e; subst e
      show (A1 ++ fl as).Perm (A ++ (A0 ++ fl as))
      rw [← List.append_assoc]
      exact (hp.trans List.perm_append_comm).append_right _
  | succ i ih =>
    intro as e
    cases as with
    | nil => simp at e
    | cons p as =>
      have := ih (as := as) (by simpa using e)
      show (p.2 ++ fl (as.set i (x, A1))).Perm (A ++ (p.2 ++ fl as))
      refine (List.Perm.append_left p.2 this).trans ?_
      rw [← List.append_assoc, ← List.append_assoc]
      exact (List.perm_append_comm).append_right _
theorem rts_set {i : Nat} {x : Addr} {A0 A : List Addr} {as : SA} (e : as[i]? = some (x, A0)) : rts (as.set i (x, A)) = rts as := by
  unfold rts
  rw [List.map_set]
  apply List.ext_getElem?
  intro j
  by_cases z : i = j
  · subst z
    have hl := getElem?_lt e
    rw [List.getElem?_set_self (by rw [List.length_map]; exact hl), List.getElem?_map, e]; rfl
  · rw [List.getElem?_set_ne z]
theorem StOk.put {G : Cxt} {B : Bn} {rs : List Addr} {H H' : Hp} (hk : ∀ u v, im G rs B u v H → im G rs B u v H') : ∀ {as : SA} {st : Sto} {i : Nat} {p p' : Addr × List Addr} {u : U}, StOk G B rs as st H → as[i]? = some p → (∀ (j : Nat) (q : Addr × List Addr), as[j]? = some q → j ≠ i → ∀ b ∈ q.2, H' b = H b) → ownC G rs B u (.ref p'.1) H' p'.2 → StOk G B rs (as.set i p') (st.set i u) H'
  | q :: as, s :: st, 0, p, p', u, ⟨h1, h2⟩, e, kp, o => ⟨o, by
      have : ∀ {as : SA} {st : Sto} (n : Nat), (∀ (j : Nat) (q : Addr × List Addr), as[j]? = some q → ∀ b ∈ q.2, H' b = H b) → StOk G B rs as st H → StOk G B rs as st H' := by
        intro as
        induction as with
        | nil => intro st n _ h; cases st <;> exact h
        | cons q as ih =>
          intro st n kp h
          cases st with
          | nil => exact h
          | cons s st => exact ⟨ownC_mono hk _ _ _ (fun b m => kp 0 q rfl b m) h.1, ih n (fun j q e b m => kp (j + 1) q (by simpa using e) b m) h.2⟩
      exact this 0 (fun j q e b m => kp (j + 1) q (by simpa using e) (by omega) b m) h2⟩
  | q :: as, s :: st, i + 1, p, p', u, ⟨h1, h2⟩, e, kp, o => ⟨ownC_mono hk _ _ _ (fun b m => kp 0 q rfl (by omega) b m) h1, StOk.put hk (i := i) h2 (by simpa using e) (fun j q e' ne b m => kp (j + 1) q (by simpa using e') (by omega) b m) o⟩
  | [], [], _, _, _, _, _, e, _, _ => by simp at e
theorem sa_disj {b : Addr} : ∀ {as : SA} {i j : Nat} {p q : Addr × List Addr}, (fl as).Nodup → as[i]? = some p → as[j]? = some q → b ∈ p.2 → b ∈ q.2 → i = j
  | [], _, _, _, _, _, e, _, _, _ => by simp at e
  | r :: as, 0, 0, _, _, _, _, _, _, _ => rfl
  | r :: as, 0, j + 1, p, q, nd, e1, e2, m1, m2 => by
    have nd' := List.nodup_append.mp (show (r.2 ++ fl as).Nodup from nd)
    simp at e1; subst e1
    exact absurd rfl (nd'.2.2 b m1 b (mem_fl (List.mem_of_getElem? (show as[j]? = some q by simpa using e2)) m2))
  | r :: as, i + 1, 0, p, q, nd, e1, e2, m1, m2 => by
    have nd' := List.nodup_append.mp (show (r.2 ++ fl as).Nodup from nd)
    simp at e2; subst e2
    exact absurd rfl (nd'.2.2 b m2 b (mem_fl (List.mem_of_getElem? (show as[i]? = some p by simpa using e1)) m1))
  | r :: as, i + 1, j + 1, p, q, nd, e1, e2, m1, m2 => by
    have nd' := List.nodup_append.mp (show (r.2 ++ fl as).Nodup from nd)
    rw [sa_disj nd'.2.1 (show as[i]? = some p by simpa using e1) (show as[j]? = some q by simpa using e2) m1 m2]
/-- what is owned is put into a cell; the cell's thing at b changes -/
theorem SDo.give {k i : Nat} {A A0 A1 : List Addr} {x b : Addr} {o : HO} {u : U} {H' : Hp} (S : SDo F ((k, A) :: os) as st γ H σ δ) (hp : A1.Perm (A0 ++ A)) (hk : δ.length ≤ k) (e0 : as[i]? = some (x, A0)) (mb : b ∈ A0) (eb : H b = some o) (nt : ∀ xs, o ≠ .tup xs) (nf : ∀ y z, o ≠ .frz y z)
    (kp : ∀ c y, H c = some y → c ≠ b → c ∉ A → H' c = some y) (al : ∀ c, H c ≠ none → H' c ≠ none) (ntA : ∀ c ∈ A, ∀ xs, H c ≠ some (.tup xs)) (nfA : ∀ c ∈ A, ∀ y z, H c ≠ some (.frz y z)) (ow : (∀ v w, im F.G (rts as) (ban F ((k, A) :: os) as) v w H → im F.G (rts as) (ban F os (as.set i (x, A1))) v w H') → ownC F.G (rts as) (ban F os (as.set i (x, A1))) u (.ref x) H' A1) :
    SDo F os (as.set i (x, A1)) (st.set i u) γ H' σ δ := by
  have pm := fl_set hp e0
  have mfl : ∀ c, c ∈ fl (as.set i (x, A1)) ↔ c ∈ A ∨ c ∈ fl as := fun c => by rw [pm.mem_iff, List.mem_append]
  have bb : ∀ c, ban F os (as.set i (x, A1)) c ↔ ban F ((k, A) :: os) as c := fun c => by
    rw [ban_cons]
    unfold ban
    rw [mfl]
    constructor
    · rintro (h | h | h | h)
      · exact .inr (.inl h)
      · exact .inr (.inr (.inl h))
      · exact .inl h
      · exact .inr (.inr (.inr h))
    · rintro (h | h | h | h)
      · exact .inr (.inr (.inl h))
      · exact .inl h
      · exact .inr (.inl h)
      · exact .inr (.inr (.inr h))
  have hbb : ban F ((k, A) :: os) as b := .inr (.inr (mem_fl (List.mem_of_getElem? e0) mb))
  have hA : ∀ c ∈ A, ban F ((k, A) :: os) as c := fun c m => .inr (.inl (List.mem_append_left _ m))
  have rb : RB (ban F ((k, A) :: os) as) H H' :=
    ⟨fun c y n e => kp c y e (fun z => n (by rw [z]; exact hbb)) fun m => n (hA c m), fun c xs e => kp c _ e (fun z => by rw [z, eb] at e; exact nt xs (Option.some.inj e)) fun m => ntA c m xs e, fun c y z e => kp c _ e (fun q => by rw [q, eb] at e; exact nf y z (Option.some.inj e)) fun m => nfA c m y z e, fun c _ n => al c n⟩
  have up : ∀ v w, im F.G (rts as) (ban F ((k, A) :: os) as) v w H → im F.G (rts as) (ban F os (as.set i (x, A1))) v w H' := fun v w h => im_sub (fun c _ z => (bb c).mp z) _ _ (im_st rb _ _ h)
  have tp : ∀ c xs, H c = some (.tup xs) → H' c = some (.tup xs) := fun c xs e => rb.tup c xs e
  have nd : (A ++ (flo os ++ fl as)).Nodup := by rw [← List.append_assoc]; exact S.nd
  have nd1 := List.nodup_append.mp nd
  have ndf := (List.nodup_append.mp nd1.2.1).2.1
  have rse := rts_set (A := A1) e0
  refine ⟨fun p m => by rw [rse]; exact up _ _ (S.gh p m), ⟨⟨fun c y n e => ?_, fun c xs e => tp c xs (S.rel.rb.tup c xs e), fun c y z e => rb.frz c y z (S.rel.rb.frz c y z e), fun c _ n => al c (S.rel.alive n)⟩, fun j c e => by rw [rse]; exact S.rel.pre j c e, fun c m => ?_⟩, fun c z => al c (S.ok c ((bb c).mp z)), ?_, (List.nodup_cons.mp S.ix).2, fun c m => S.new c (List.mem_append_right A m), fun c z => ?_, ?_, S.len, fun j s e => ?_⟩
  · refine kp c y (S.rel.rb.keep c y n e) (fun z => ?_) fun m => ?_
    · rcases S.rel.new c (by rw [z]; exact mem_fl (List.mem_of_getElem? e0) mb) with w | w
      · exact n w
      · rw [e] at w; cases w
    · have := S.new c (List.mem_append_left _ m)
      rw [e] at this; cases this
  · rcases (mfl c).mp m with m | m
    · exact .inr (S.new c (List.mem_append_left _ m))
    · exact S.rel.new c m
  · have : (flo os ++ fl (as.set i (x, A1))).Perm (A ++ (flo os ++ fl as)) := by
      refine (List.Perm.append_left (flo os) pm).trans ?_
      rw [← List.append_assoc, ← List.append_assoc]
      exact (List.perm_append_comm).append_right _
    exact this.nodup_iff.mpr nd
  · rcases z with z | z
    · exact S.nb c (.inl (List.mem_append_right A z))
    · rcases (mfl c).mp z with m | m
      · exact S.nb c (.inl (List.mem_append_left _ m))
      · exact S.nb c (.inr m)
  · rw [rse]
    have s0 : StOk F.G (ban F os (as.set i (x, A1))) (rts as) as st H := StOk.mono (fun v w h => im_sub (fun c _ z => (bb c).mp z) _ _ h) (fun _ _ h => h) (fun _ _ => rfl) S.sto
    have hk2 : ∀ v w, im F.G (rts as) (ban F os (as.set i (x, A1))) v w H → im F.G (rts as) (ban F os (as.set i (x, A1))) v w H' := fun v w h => up v w (im_sub (fun c _ z => (bb c).mpr z) _ _ h)
    refine StOk.put hk2 s0 e0 (fun j q eq ne c m => ?_) (ow up)
    have mf : c ∈ fl as := mem_fl (List.mem_of_getElem? eq) m
    cases e : H c with
    | none => exact absurd e (S.ok c (.inr (.inr mf)))
    | some y =>
      refine kp c y e (fun z => ne ?_) fun mA => nd1.2.2 c mA c (List.mem_append_right _ mf) rfl
      subst z
      exact sa_disj ndf eq e0 m mb
  · obtain ⟨v, h1, h2⟩ := S.at_ j s e
    refine ⟨v, h1, ?_⟩
    match s, h2 with
    | .im u, h2 => show im F.G _ _ _ _ _; rw [rse]; exact up _ _ h2
    | .raw _, h2 => exact h2
    | .own sh u, ⟨C, m, h2⟩ =>
      have m' : (j, C) ∈ os := by
        rcases List.mem_cons.mp m with z | m
        · have := getElem?_lt e
          have : j = k := (Prod.mk.inj z).1
          omega
        · exact m
      refine ⟨C, m', ?_⟩
      rw [rse]
      refine own_mono up tp _ _ _ _ (fun c mc => ?_) h2
      have mo : c ∈ flo os := mem_flo m' mc
      cases ec : H c with
      | none => exact absurd ec (S.ok c (.inr (.inl (List.mem_append_right A mo))))
      | some y =>
        refine kp c y ec (fun z => ?_) fun mA => nd1.2.2 c mA c (List.mem_append_left _ mo) rfl
        exact (List.nodup_append.mp nd1.2.1).2.2 c mo b (mem_fl (List.mem_of_getElem? e0) mb) z
end
end UX

set_option Elab.async false
set_option linter.all false
set_option maxRecDepth 100000
set_option maxHeartbeats 4000000
set_option autoImplicit false
namespace UX
open PySem PySem.Spec PyProof.Rows L2
open EL (Ex RB BOk Bn TK FnG okG)
/-! ### self.f = e, for the first time -/
def newF (cs : List Str) (f : Str) (c : Cl) (x : U) : Option U := match c.2.1 with
  | .obj c0 ns us => if c0 ∈ cs ∧ idxF f ns = none ∧ ns.length = us.length ∧ us.length < 1000 then some (c.2.2 (.obj c0 (ns ++ [f]) (us ++ [x]))) else none
  | _ => none
section
variable {F : Fr} {os : Os} {as : SA} {st : Sto} {γ : List (U × V)} {H : Hp} {σ : L2.St} {δ : Dl}
theorem ownFs_snoc {G : Cxt} {rs rs2 : List Addr} {B B2 : Bn} {H H2 : Hp} {u : U} {v : V} {A' : List Addr} (t : ∀ u v, im G rs B u v H → im G rs2 B2 u v H2) (h' : ownF G rs2 B2 u v H2 A') : ∀ {us : List U} {vs : List V} {A : List Addr}, (∀ a ∈ A, H2 a = H a) → ownFs G rs B us vs H A → ownFs G rs2 B2 (us ++ [u]) (vs ++ [v]) H2 (A ++ A')
  | [], _, _, _, ⟨e1, e2⟩ => by subst e1 e2; exact ⟨v, [], A', [], rfl, by simp, h', rfl, rfl⟩
  | x :: us, _, A, k, ⟨y, r, A1, A2, e1, e2, h1, h2⟩ => by
    subst e1 e2
    exact ⟨y, r ++ [v], A1, A2 ++ A', rfl, by simp, ownF_mono t x y A1 (fun a m => k a (List.mem_append_left _ m)) h1, ownFs_snoc t h' (fun a m => k a (List.mem_append_right _ m)) h2⟩
theorem ownF_notup {G : Cxt} {rs : List Addr} {B : Bn} {H : Hp} : (∀ (u : U) (v : V) (A : List Addr), ownF G rs B u v H A → ∀ c ∈ A, (∀ xs, H c ≠ some (.tup xs)) ∧ ∀ y z, H c ≠ some (.frz y z)) := by
  have key : ∀ (n : Nat), (∀ (u : U) (v : V) (A : List Addr), sizeOf u ≤ n → ownF G rs B u v H A → ∀ c ∈ A, (∀ xs, H c ≠ some (.tup xs)) ∧ ∀ y z, H c ≠ some (.frz y z)) ∧ (∀ (us : List U) (vs : List V) (A : List Addr), sizeOf us ≤ n → ownFs G rs B us vs H A → ∀ c ∈ A, (∀ xs, H c ≠ some (.tup xs)) ∧ ∀ y z, H c ≠ some (.frz y z)) := by
    intro n
    induction n with
    | zero =>
      constructor
      · intro u v A hs
        cases u <;> simp at hs
      · intro us vs A hs
        cases us <;> simp at hs
    | succ n ih =>
      constructor
      · intro u v A hs h c m
        cases u with
        | lst us =>
          obtain ⟨a, vs, A', e1, e2, e3, q⟩ := h
          rw [e2] at m
          rcases List.mem_cons.mp m with z | m
          · subst z; exact ⟨(fun xs z => by rw [e3] at z; cases z), fun y z w => by rw [e3] at w; cases w⟩
          · exact ih.2 us vs A' (by simp at hs; omega) q c m
        | dct ks us =>
          obtain ⟨a, vs, A', e1, e2, e3, l, q⟩ := h
          rw [e2] at m
          rcases List.mem_cons.mp m with z | m
          · subst z; exact ⟨(fun xs z => by rw [e3] at z; cases z), fun y z w => by rw [e3] at w; cases w⟩
          · exact ih.2 us vs A' (by simp at hs; omega) q c m
        | dcT ks us =>
          obtain ⟨a, vs, A', e1, e2, e3, l, q⟩ := h
          rw [e2] at m
          rcases List.mem_cons.mp m with z | m
          · subst z; exact ⟨(fun xs z => by rw [e3] at z; cases z), fun y z w => by rw [e3] at w; cases w⟩
          · exact ih.2 us vs A' (by simp at hs; omega) q c m
        | _ => rw [h.1] at m; cases m
      · intro us vs A hs h c m
        cases us with
        | nil => rw [h.2] at m; cases m
        | cons u us =>
          obtain ⟨v, r, A1, A2, e1, e2, h1, h2⟩ := h
          rw [e2] at m
          rcases List.mem_append.mp m with m | m
          · exact ih.1 u v A1 (by simp at hs; omega) h1 c m
          · exact ih.2 us r A2 (by simp at hs; omega) h2 c m
  intro u v A h
  exact (key (sizeOf u)).1 u v A (Nat.le_refl _) h
theorem blk_fldC {S L : Type} {δn : S → Dl} {δl : L → Dl} {cs : List Str} {f : Str} {j : Nat} {u0 : U} {te : TE} {t2 : TS} {we : M U} {k : M (Out S L)} (hc : ∀ c ∈ cs, Cls F.G.K (F.G.at_ c) ∧ NoAttr F.G.K (F.G.at_ c) f) (he : EvNF F te δ we) (hj : δ[j]? = some (some (.im u0))) (h2 : Blk F t2 δ k δn δl) :
    Blk F (tSeq (sFld F.G.K (tVar j) te f) t2) δ (.bind we fun x => .bind (locM u0) fun c => .bind (.o (newF cs f c x)) fun u => .bind (putC c.1 u) fun _ => k) δn δl := fun D os as st γ σ H o st' Q q P => by
  obtain ⟨x, st1, q1, q2⟩ := M.bind_inv q
  obtain ⟨c, st2, q3, q4⟩ := M.bind_inv q2
  obtain ⟨u, st3, q5, q6⟩ := M.bind_inv q4
  obtain ⟨_, st4, q7, q8⟩ := M.bind_inv q6
  obtain ⟨ed, rfl⟩ := M.o_inv q5
  clear q q2 q4 q6
  refine he os as st γ σ H x st1 Q q1 _ fun xv H1 as1 A g1 S1 px n => ?_
  obtain ⟨k1, hk1, hl1⟩ := nodup_fresh (os.map (·.1)) δ.length
  have S2 := S1 k1 hk1
  obtain ⟨v, ev, pv⟩ := S2.get hj
  refine ⟨v, ev, ?_⟩
  cases u0 with
  | loc i => ?_
  | _ => cases q3
  obtain ⟨a, ea, evv⟩ := pv
  simp only [locM] at q3
  cases es : st1[i]? with
  | none => rw [es] at q3; cases q3
  | some x0 =>
    rw [es] at q3
    simp only at q3
    cases q3
    obtain ⟨⟨a', A0⟩, e1, e2⟩ : ∃ p, as1[i]? = some p ∧ p.1 = a := by
      unfold rts at ea
      rw [List.getElem?_map] at ea
      exact Option.map_eq_some_iff.mp ea
    simp only at e2
    subst e2
    have oc := S2.sto.get e1 es
    cases x0 with
    | obj c0 ns us =>
      simp only [newF, id] at ed
      split at ed
      case isFalse => cases ed
      rename_i hcond
      cases ed
      obtain ⟨b, dx, vs, B, f1, f2, f3, l, z⟩ := oc
      cases f1
      have f2 : A0 = a' :: B := f2
      have lv : ns.length = vs.length := by rw [ownFs_len z]; exact l
      refine ⟨a', F.G.at_ c0, dx, _, evv, f3, (hc c0 hcond.1).1, (hc c0 hcond.1).2, by rw [List.length_zip, lv, Nat.min_self, ownFs_len z]; exact hcond.2.2.2, ?_⟩
      rw [idx_none hcond.2.1 lv]
      unfold putC at q7
      simp only [getElem?_lt es, if_true] at q7
      cases q7
      have nd : (A ++ (flo os ++ fl as1)).Nodup := by rw [← List.append_assoc]; exact S2.nd
      have nA : ∀ c ∈ A, c ≠ a' := fun c m e => (List.nodup_append.mp nd).2.2 c m a' (List.mem_append_right _ (mem_fl (List.mem_of_getElem? e1) (by rw [f2]; exact List.mem_cons_self))) e
      have nB : ∀ c ∈ B, c ≠ a' := fun c m e => by
        have := sa_nodup as1 i (List.nodup_append.mp (List.nodup_append.mp nd).2.1).2.1 e1
        rw [f2] at this
        exact (List.nodup_cons.mp this).1 (e ▸ m)
      refine h2 D os _ _ γ σ _ o st' (S2.give (i := i) (x := a') (b := a') (A0 := A0) (A1 := A0 ++ A) (H' := upd H1 a' (.ins (F.G.at_ c0) dx ((ns ++ [f]).zip (vs ++ [xv])))) (List.Perm.refl _) hl1 e1 (by rw [f2]; exact List.mem_cons_self) f3 (fun _ z => nomatch z) (fun _ _ z => nomatch z) (fun c y e ne _ => by rw [upd_ne ne]; exact e) (fun c ne => ?_) (fun c m xs => (ownF_notup _ _ _ px c m).1 xs) (fun c m y z => (ownF_notup _ _ _ px c m).2 y z) fun up => ?_) q8 P
      · by_cases z : c = a'
        · rw [z, upd_same]; exact fun q => nomatch q
        · rw [upd_ne z]; exact ne
      · refine ⟨a', dx, vs ++ [xv], B ++ A, rfl, by rw [f2]; rfl, upd_same, by rw [List.length_append, List.length_append, l]; rfl, ?_⟩
        exact ownFs_snoc up (ownF_mono up _ _ _ (fun c m => upd_ne (nA c m)) px) (fun c m => upd_ne (nB c m)) z
    | _ => cases ed
end
end UX

set_option Elab.async false
set_option linter.all false
set_option maxRecDepth 100000
set_option maxHeartbeats 4000000
set_option autoImplicit false
namespace UX
open PySem PySem.Spec PyProof.Rows L2
open EL (Ex RB BOk Bn TK FnG okG)
/-! ### comprehensions of new things -/
structure LSF (F : Fr) (os : Os) (k0 : Nat) (D : Addr) (as : SA) (st : Sto) (γ : List (U × V)) (H : Hp) (σ : L2.St) (δ : Dl) (accU : List U) (A : List Addr) : Prop where
  S : SDo F ((k0, D :: A) :: os) as st γ H σ δ
  a : ∃ acc, H D = some (.lst acc) ∧ ownFs F.G (rts as) (ban F ((k0, D :: A) :: os) as) accU acc H A
section
variable {F : Fr} {os : Os} {as as' : SA} {st st' : Sto} {γ : List (U × V)} {H H' : Hp} {σ : L2.St} {δ : Dl} {k0 : Nat} {D : Addr} {accU : List U} {A : List Addr}
theorem ownFs_go {os : Os} {us : List U} {vs : List V} {A : List Addr} (g : Go as as' H H') (h : ownFs F.G (rts as) (ban F os as) us vs H A) (k : ∀ a ∈ A, a ∉ fl as) (al : ∀ a ∈ A, H a ≠ none) : ownFs F.G (rts as') (ban F os as') us vs H' A :=
  ownFs_mono (fun _ _ h => im_go g h) _ _ _ (fun a m => by
    cases e : H a with
    | none => exact absurd e (al a m)
    | some o => exact g.rb.keep a o (k a m) e) h
theorem LSF.go (l : LSF F os k0 D as st γ H σ δ accU A) {σ' : L2.St} {δ' : Dl} (g : Go as as' H H') (S : SDo F ((k0, D :: A) :: os) as' st' γ H' σ' δ') : LSF F os k0 D as' st' γ H' σ' δ' accU A := by
  obtain ⟨acc, e, h⟩ := l.a
  have nf : ∀ a ∈ D :: A, a ∉ fl as := fun a m q => (List.nodup_append.mp l.S.nd).2.2 a (List.mem_append_left _ m) a q rfl
  exact ⟨S, acc, g.rb.keep _ _ (nf D List.mem_cons_self) e, ownFs_go g h (fun a m => nf a (List.mem_cons_of_mem _ m)) fun a m => l.S.ok a (.inr (.inl (List.mem_append_left _ (List.mem_cons_of_mem _ m))))⟩
theorem LSF.push {k : Nat} {B : List Addr} (l : LSF F os k0 D as st γ H σ δ accU A) (hk : δ.length ≤ k0) (hk1 : δ.length ≤ k) (hko : k0 ∉ os.map (·.1)) {u : U} {y : V} {as2 : SA} {st2 : Sto} {H2 : Hp} (g : Go as as2 H H2) (S2 : SDo F ((k, B) :: (k0, D :: A) :: os) as2 st2 γ H2 σ δ) (hB : ∀ a ∈ B, H a = none) (p : ownF F.G (rts as2) (ban F ((0, B) :: (k0, D :: A) :: os) as2) u y H2 B) :
    ∃ acc, H2 D = some (.lst acc) ∧ acc.length = accU.length ∧ LSF F os k0 D as2 st2 γ (upd H2 D (.lst (acc ++ [y]))) σ δ (accU ++ [u]) (A ++ B) := by
  obtain ⟨acc, e, h⟩ := l.a
  have nf : ∀ a ∈ D :: A, a ∉ fl as := fun a m q => (List.nodup_append.mp l.S.nd).2.2 a (List.mem_append_left _ m) a q rfl
  have al : ∀ a ∈ D :: A, H a ≠ none := fun a m => l.S.ok a (.inr (.inl (List.mem_append_left _ m)))
  have e2 : H2 D = some (.lst acc) := g.rb.keep _ _ (nf D List.mem_cons_self) e
  have h2 : ownFs F.G (rts as2) (ban F ((k, B) :: (k0, D :: A) :: os) as2) accU acc H2 A := by
    have h1 : ownFs F.G (rts as) (ban F ((k, B) :: (k0, D :: A) :: os) as) accU acc H A := ownFs_mono (fun _ _ z => im_sub (sub_cons hB) _ _ z) _ _ _ (fun _ _ => rfl) h
    exact ownFs_go (os := (k, B) :: (k0, D :: A) :: os) g h1 (fun a m => nf a (List.mem_cons_of_mem _ m)) fun a m => al a (List.mem_cons_of_mem _ m)
  have S3 := S2.merge (k := k0) hk hk1 hko
  have c : Chg F ((k0, (D :: A) ++ B) :: os) as2 H2 (upd H2 D (.lst (acc ++ [y]))) k0 ((D :: A) ++ B) ((D :: A) ++ B) D := chg_same List.mem_cons_self List.mem_cons_self S3 e2 (fun _ z => nomatch z) (fun _ _ z => nomatch z)
  have S4 := S3.mut c (x := none) (fun _ z => nomatch z)
  have so := setOs_same S3.ix (List.mem_cons_self (a := (k0, (D :: A) ++ B)) (l := os))
  rw [so, List.set_eq_of_length_le hk] at S4
  have bb : ∀ a, ban F ((k0, (D :: A) ++ B) :: os) as2 a → ban F ((k, B) :: (k0, D :: A) :: os) as2 a := fun a b => by
    rw [ban_cons, List.mem_append] at b
    rw [ban_cons, ban_cons]
    rcases b with (h | h) | h
    · exact .inr (.inl h)
    · exact .inl h
    · exact .inr (.inr h)
  have up : ∀ u v, im F.G (rts as2) (ban F ((k, B) :: (k0, D :: A) :: os) as2) u v H2 → im F.G (rts as2) (ban F ((k0, D :: (A ++ B)) :: os) as2) u v (upd H2 D (.lst (acc ++ [y]))) := fun u v h => by
    have h1 : im F.G (rts as2) (ban F ((k0, (D :: A) ++ B) :: os) as2) u v H2 := im_sub (fun a _ b => bb a b) _ _ h
    have := c.im h1
    rw [so] at this
    exact this
  have nd : ((D :: A) ++ B).Nodup := os_nodup _ (List.nodup_append.mp S3.nd).1 List.mem_cons_self
  have nD := (List.nodup_cons.mp (show (D :: (A ++ B)).Nodup from nd)).1
  refine ⟨acc, e2, ownFs_len h, S4, acc ++ [y], upd_same, ?_⟩
  exact ownFs_snoc up (ownF_mono up _ _ _ (fun a m => upd_ne fun z => nD (z ▸ List.mem_append_right _ m)) p) (fun a m => upd_ne fun z => nD (z ▸ List.mem_append_left _ m)) h2
end
section
variable {F : Fr} {δ : Dl} {wi : TI} {g : TG} {tt : TT} {te : TE} {vs : List Nat} {wl : M (List U)}
theorem enf_lc {wt : U → M Bool} {we : U → M U} (no : noOwn δ vs = true) (hs : Src F wi δ wl)
    (hb : ∀ u st r, wt u st = some r → ∃ δ', TgOk F g vs (wipD δ vs) u δ' ∧ EvT F tt δ' (wt u) ∧ EvNF F te δ' (we u)) : EvNF F (tLc wi g tt te vs) δ (lcW wl wt we) := fun os as st γ σ H c st' S q QQ k => by
  obtain ⟨us, st1, qs, q1⟩ := M.bind_inv q
  obtain ⟨r, st2, qr, q2⟩ := M.bind_inv q1
  obtain ⟨e, rfl⟩ := M.o_inv q2
  clear q q1 q2
  unfold szU at e
  by_cases hsz : r.length ≤ sizeLine
  case neg => rw [if_neg hsz] at e; cases e
  rw [if_pos hsz] at e
  cases e
  refine hs os as st (ghv σ δ vs ++ γ) σ H us st1 (S.ghost (ghv_ok S vs)) qs _ fun J H1 as1 gh g1 S1 W D hD => ?_
  obtain ⟨k0, hk0, hkl⟩ := nodup_fresh (os.map (·.1)) δ.length
  have S2 := S1.grow hk0 hD (Ex.new (o := .lst []) hD) (by rw [upd_same]; exact fun z => nomatch z)
  have hD0 : H D = none := g1.fresh hD
  have hkw : (wipD δ vs).length ≤ k0 := by rw [wipD_len]; exact hkl
  refine ⟨fun i m Hc => m = us.length - i ∧ i ≤ us.length ∧ ∃ as2 st2 accU rest A, Go as as2 H Hc ∧ (∀ a ∈ A, H a = none) ∧ LSF F os k0 D as2 st2 (gh ++ (ghv σ δ vs ++ γ)) Hc (L2.wipe σ vs) (wipD δ vs) accU A ∧ compM wt we (us.drop i) st2 = some (.ok rest, st') ∧ accU ++ rest = r,
    ⟨us.length, by simp, Nat.zero_le _, as1, st1, [], r, [], go_new (H1 := H) g1 hD0, (fun a m => nomatch m), ⟨S2.wipe vs, [], upd_same, rfl, rfl⟩, by rw [List.drop_zero]; exact qr, rfl⟩, ?_⟩
  rintro i m Hc ⟨rfl, hi, as2, st2, accU, rest, A, g2, hA, l2, q2, er⟩
  by_cases hlt : i < us.length
  · right
    refine ⟨W.goes i _ as2 st2 _ _ _ Hc hlt l2.S, fun H' => ∃ m', m' < us.length - i ∧ m' = us.length - (i + 1) ∧ i + 1 ≤ us.length ∧ ∃ as2 st2 accU rest A, Go as as2 H H' ∧ (∀ a ∈ A, H a = none) ∧ LSF F os k0 D as2 st2 (gh ++ (ghv σ δ vs ++ γ)) H' (L2.wipe σ vs) (wipD δ vs) accU A ∧ compM wt we (us.drop (i + 1)) st2 = some (.ok rest, st') ∧ accU ++ rest = r, fun H' ⟨m', h1, h2, h3⟩ => ⟨m', h1, h2, h3⟩, fun x H' y => ?_⟩
    have ed : us.drop i = us[i] :: us.drop (i + 1) := List.drop_eq_getElem_cons hlt
    rw [ed, compM] at q2
    obtain ⟨b, st3, q3, q4⟩ := M.bind_inv q2
    obtain ⟨δ', tg, ht, he⟩ := hb us[i] st2 _ q3
    obtain ⟨ex, px⟩ := W.yields i _ as2 st2 _ _ _ x Hc H' us[i] (List.getElem?_eq_getElem hlt) l2.S y
    have gx : Go as2 as2 Hc H' := Go.of_ex ex
    have l3 := l2.go gx (l2.S.ex ex)
    refine tg.2 _ as2 st2 _ H' _ x l3.S px _ fun σ2 wq S3 => ⟨by rw [wq, wipe_idem], ?_⟩
    have back : ∀ {os4 : Os} {as4 : SA} {st4 : Sto} {H4 : Hp}, SDo F os4 as4 st4 (gh ++ (ghv σ δ vs ++ γ)) H4 σ2 δ' → SDo F os4 as4 st4 (gh ++ (ghv σ δ vs ++ γ)) H4 (L2.wipe σ vs) (wipD δ vs) := fun S4 => by
      have := S4.wipe vs
      rw [wq, wipe_idem, tg.1, wipD_idem] at this
      exact this
    refine ht _ as2 st2 _ σ2 H' b st3 S3 q3 _ fun H3 as3 g3 S4 => ?_
    cases b with
    | false => exact ⟨us.length - (i + 1), by omega, rfl, hlt, as3, st3, accU, rest, A, (g2.trans gx).trans g3, hA, l3.go g3 (back S4), q4, er⟩
    | true =>
      simp only [if_true] at q4 ⊢
      obtain ⟨u, st5, q5, q6⟩ := M.bind_inv q4
      obtain ⟨r', st6, q7, q8⟩ := M.bind_inv q6
      cases q8
      refine he _ as3 st3 _ σ2 H3 u st5 S4 q5 _ fun y H5 as5 B g5 S5 py nB => ?_
      obtain ⟨k1, hk1, hkl1⟩ := nodup_fresh (((k0, D :: A) :: os).map (·.1)) δ.length
      obtain ⟨acc, e1, e2, l5⟩ := (l3.go g3 (back S4)).push hkw (by rw [wipD_len]; exact hkl1) hk0 g5 (back (S5 k1 hk1)) nB py
      refine ⟨acc, e1, ?_, us.length - (i + 1), by omega, rfl, hlt, as5, st5, accU ++ [u], r', A ++ B, go_new (H1 := H) (((g2.trans gx).trans g3).trans g5) hD0, fun a m => ?_, l5, q7, by rw [List.append_assoc]; exact er⟩
      · rw [e2]
        rw [← er, List.length_append, List.length_cons] at hsz
        omega
      · rcases List.mem_append.mp m with z | z
        · exact hA a z
        · exact ((g2.trans gx).trans g3).fresh (nB a z)
  · left
    have e : i = us.length := by omega
    subst e
    rw [List.drop_length] at q2
    cases q2
    rw [List.append_nil] at er
    subst er
    refine ⟨W.stops _ as2 _ _ _ _ Hc l2.S, ?_⟩
    obtain ⟨acc, e1, h1⟩ := l2.a
    refine k _ Hc as2 (D :: A) g2 (fun k hk => ?_) ⟨D, acc, A, rfl, rfl, e1, h1⟩ fun a m => ?_
    · have : SDo F ((k0, D :: A) :: os) as2 _ γ Hc σ δ := SDo.restore (g := []) (vs := vs) S no l2.S.unghost
      exact this.reix hkl hk
    · rcases List.mem_cons.mp m with z | z
      · rw [z]; exact hD0
      · exact hA a z
/-- {} -/
theorem enf_dK : EvNF F tDNewK δ (.ret (.dct [] [])) := fun os as st γ σ H c st' S q QQ k => by
  cases q
  intro p hp
  refine k _ _ as [p] (Go.of_ex (Ex.new hp)) (fun k hk => S.grow hk hp (Ex.new hp) (by rw [upd_same]; exact fun z => nomatch z)) ⟨p, [], [], rfl, rfl, upd_same, rfl, rfl, rfl⟩ fun a m => by rw [List.mem_singleton] at m; rw [m]; exact hp
theorem enf_dT : EvNF F tDNewT δ (.ret (.dcT [] [])) := fun os as st γ σ H c st' S q QQ k => by
  cases q
  intro p hp
  refine k _ _ as [p] (Go.of_ex (Ex.new hp)) (fun k hk => S.grow hk hp (Ex.new hp) (by rw [upd_same]; exact fun z => nomatch z)) ⟨p, [], [], rfl, rfl, upd_same, rfl, rfl, rfl⟩ fun a m => by rw [List.mem_singleton] at m; rw [m]; exact hp
theorem en_dK : EvN F (.dct .leaf) tDNewK δ (.ret (.dct [] [])) := fun os as st γ σ H c st' S q QQ k => by
  cases q
  intro p hp
  refine k _ _ as [p] (Go.of_ex (Ex.new hp)) (fun k hk => S.grow hk hp (Ex.new hp) (by rw [upd_same]; exact fun z => nomatch z)) ⟨p, [], [], rfl, rfl, upd_same, rfl, rfl, rfl⟩ fun a m => by rw [List.mem_singleton] at m; rw [m]; exact hp
theorem en_dT : EvN F (.dct .leaf) tDNewT δ (.ret (.dcT [] [])) := fun os as st γ σ H c st' S q QQ k => by
  cases q
  intro p hp
  refine k _ _ as [p] (Go.of_ex (Ex.new hp)) (fun k hk => S.grow hk hp (Ex.new hp) (by rw [upd_same]; exact fun z => nomatch z)) ⟨p, [], [], rfl, rfl, upd_same, rfl, rfl, rfl⟩ fun a m => by rw [List.mem_singleton] at m; rw [m]; exact hp
end
end UX

set_option Elab.async false
set_option linter.all false
set_option maxRecDepth 100000
set_option maxHeartbeats 4000000
set_option autoImplicit false
namespace UX
open PySem PySem.Spec PyProof.Rows L2
open EL (Ex RB BOk Bn TK FnG okG)
/-! ### keys -/
def keyU : U → Option Key
  | .int i => some (.inl i)
  | .str x => some (.inr x)
  | _ => none
def keysU : List U → Option (List Key)
  | [] => some []
  | u :: us => match keyU u, keysU us with
    | some k, some ks => some (k :: ks)
    | _, _ => none
def tkeyU : U → Option (List Key)
  | .tup us => keysU us
  | _ => none
def idxK {κ : Type} [DecidableEq κ] (k : κ) : List κ → Option Nat
  | [] => none
  | x :: xs => if x = k then some 0 else (idxK k xs).map (· + 1)
section
variable {κ : Type} [DecidableEq κ]
theorem idxK_val {k : κ} : ∀ {ks : List κ} {vs : List V} {j : Nat} {v : V}, idxK k ks = some j → vs[j]? = some v → valV (ks.zip vs) k = some v
  | [], _, _, _, e, _ => by cases e
  | x :: ks, [], _, _, _, e => by simp at e
  | x :: ks, w :: vs, j, v, e, e2 => by
    unfold idxK at e
    rw [List.zip_cons_cons]
    by_cases z : x = k
    · rw [if_pos z] at e
      cases e
      simp at e2
      rw [valV_pos z, e2]
    · rw [if_neg z] at e
      obtain ⟨j', e', rfl⟩ := Option.map_eq_some_iff.mp e
      rw [valV_neg z]
      exact idxK_val e' (by simpa using e2)
theorem idxK_lt {k : κ} : ∀ {ks : List κ} {j : Nat}, idxK k ks = some j → j < ks.length
  | [], _, e => by cases e
  | x :: ks, j, e => by
    unfold idxK at e
    by_cases z : x = k
    · rw [if_pos z] at e; cases e; simp
    · rw [if_neg z] at e
      obtain ⟨j', e', rfl⟩ := Option.map_eq_some_iff.mp e
      have := idxK_lt e'
      simp; omega
theorem idxK_none {k : κ} : ∀ {ks : List κ} {vs : List V}, idxK k ks = none → valV (ks.zip vs) k = none
  | [], vs, _ => rfl
  | x :: ks, [], _ => rfl
  | x :: ks, w :: vs, e => by
    unfold idxK at e
    by_cases z : x = k
    · rw [if_pos z] at e; cases e
    · rw [if_neg z] at e
      rw [List.zip_cons_cons, valV_neg z]
      refine idxK_none ?_
      cases q : idxK k ks with
      | none => rfl
      | some j => rw [q] at e; cases e
theorem putK_zip {k : κ} {y : V} {ks : List κ} {vs : List V} (l : ks.length = vs.length) (e : idxK k ks = none) : putK (ks.zip vs) k y = (ks ++ [k]).zip (vs ++ [y]) := by
  rw [putK_new y (idxK_none e), List.zip_append l]
  rfl
theorem putK_set {k : κ} {y : V} : ∀ {ks : List κ} {vs : List V} {j : Nat}, ks.length = vs.length → ks.Nodup → idxK k ks = some j → (ks.zip vs).map (fun kv => if kv.1 = k then (kv.1, y) else kv) = ks.zip (vs.set j y)
  | [], _, _, _, _, e => by cases e
  | x :: ks, [], _, l, _, _ => by cases l
  | x :: ks, v :: vs, j, l, nd, e => by
    unfold idxK at e
    have nd' := List.nodup_cons.mp nd
    by_cases z : x = k
    · rw [if_pos z] at e; cases e
      rw [List.zip_cons_cons, List.map_cons, if_pos z, List.set_cons_zero, List.zip_cons_cons]
      congr 1
      have : ∀ p ∈ ks.zip vs, (if p.1 = k then (p.1, y) else p) = p := fun p m => if_neg fun q => nd'.1 (by rw [z, ← q]; exact (List.of_mem_zip m).1)
      rw [List.map_congr_left this, List.map_id']
    · rw [if_neg z] at e
      obtain ⟨j', e', rfl⟩ := Option.map_eq_some_iff.mp e
      rw [List.zip_cons_cons, List.map_cons, if_neg z, putK_set (by simpa using l) nd'.2 e', List.set_cons_succ, List.zip_cons_cons]
end
def sdAppU (node key x : U) : Option U := match node, keyU key with
  | .dct ks us, some k => if ks.length < sizeLine ∧ leafU x = true then match idxK k ks with
    | some j => match us[j]? with
      | some (.lst xs) => if xs.length < sizeLine ∧ xs.all leafU = true then some (.dct ks (us.set j (.lst (xs ++ [x])))) else none
      | _ => none
    | none => some (.dct (ks ++ [k]) (us ++ [.lst [x]])) else none
  | _, _ => none
section
variable {F : Fr} {os : Os} {as : SA} {st : Sto} {γ : List (U × V)} {H : Hp} {σ : L2.St} {δ : Dl}
theorem im_key {G : Cxt} {rs : List Addr} {B : Bn} {u : U} {v : V} {k : Key} (e : keyU u = some k) (h : im G rs B u v H) : v = kV k := by
  cases u <;> simp [keyU] at e
  · subst e; exact h
  · subst e; exact h
theorem HoleC.go0 {r : Bool} {i : Nat} {h : Hl} {v : V} {H' : Hp} (p : HoleC F os as H r i h v) (S : SDo F os as st γ H σ δ) (e : Ex H H') : HoleC F os as H' r i h v := by
  obtain ⟨a, A, A1, A', A2, e0, eA, o, pl⟩ := p.ex
  have kp : ∀ b ∈ A, H' b = H b := fun b m => by
    cases q : H b with
    | none => exact absurd q (S.ok b (.inr (.inr (mem_fl (List.mem_of_getElem? e0) m))))
    | some y => exact e b y q
  have t : ∀ u v, im F.G (rts as) (ban F os as) u v H → im F.G (rts as) (ban F os as) u v H' := fun u v h => im_st (RB.of_ex e) _ _ h
  refine ⟨a, A, A1, A', A2, e0, eA, ?_, fun rs2 B2 H2 u2 A'2 t1 t3 o2 => pl rs2 B2 H2 u2 A'2 (fun u v z => t1 u v (t u v z)) (fun b z => by rw [t3 b z, kp b (by rw [eA]; exact z.elim (fun z => List.mem_append_left _ z) fun z => List.mem_append_right _ (List.mem_append_right _ z))]) o2⟩
  have kA' : ∀ b ∈ A', H' b = H b := fun b m => kp b (by rw [eA]; exact List.mem_append_right _ (List.mem_append_left _ m))
  cases r with
  | true => exact ownC_mono t _ _ _ kA' o
  | false => exact ownF_mono t _ _ _ kA' o
theorem HoleC.key {r : Bool} {i j : Nat} {ks : List Key} {us : List U} {f : U → U} {v : V} {u : U} (p : HoleC F os as H r i (.dct ks us, f) v) (eu : us[j]? = some u) : ∃ d vs w, v = .ref d ∧ H d = some (.dK (ks.zip vs)) ∧ ks.length = us.length ∧ vs.length = us.length ∧ vs[j]? = some w ∧ HoleC F os as H false i (u, fun x => f (.dct ks (us.set j x))) w := by
  obtain ⟨a, A, A1, A', A2, e0, eA, o, pl⟩ := p.ex
  have o : ownF F.G (rts as) (ban F os as) (.dct ks us) v H A' := by cases r <;> exact o
  obtain ⟨d, vs, B, e1, e2, e3, l, z⟩ := o
  obtain ⟨w, B1, B', B2, f1', f2, f3, f4⟩ := ownFs_split z eu
  refine ⟨d, vs, w, e1, e3, l, ownFs_len z, f1', a, A, A1 ++ d :: B1, B', B2 ++ A2, e0, by rw [eA, e2, f2]; simp, f3, fun rs2 B2' H3 u2 A'2 t1 t3 o2 => ?_⟩
  have := pl rs2 B2' H3 (.dct ks (us.set j u2)) (d :: (B1 ++ (A'2 ++ B2))) t1 (fun b z => t3 b (z.imp (fun z => List.mem_append_left _ z) fun z => List.mem_append_right _ z)) (by
    have : ownF F.G rs2 B2' (.dct ks (us.set j u2)) v H3 (d :: (B1 ++ (A'2 ++ B2))) := ⟨d, vs, B1 ++ (A'2 ++ B2), e1, rfl, by rw [t3 d (.inl (List.mem_append_right _ List.mem_cons_self))]; exact e3, by rw [List.length_set]; exact l, f4 rs2 B2' H3 u2 A'2 t1 (fun b z => t3 b (z.imp (fun z => List.mem_append_right _ (List.mem_cons_of_mem _ z)) fun z => List.mem_append_left _ z)) o2⟩
    cases r <;> exact this)
  simpa using this
/-- self.d[..].setdefault(k, []).append(x) -/
theorem blk_sdApp {S L : Type} {δn : S → Dl} {δl : L → Dl} {r : Bool} {j : Nat} {x : U} {tp ty : TE} {t2 : TS} {wc : M Cl} {wy : M U} {k : M (Out S L)} (hc : EvC F r tp δ wc) (hy : EvQ F ty δ wy) (hj : δ[j]? = some (some (.im x))) (h2 : Blk F t2 δ k δn δl) :
    Blk F (tSeq (tDrop (tBM F.G.K "list" rAppend (tDSetd tp ty (tLst tNil)) (tCons (tVar j) tNil))) t2) δ (.bind wc fun c => .bind wy fun y => .bind (.o (sdAppU c.2.1 y x)) fun d => .bind (putC c.1 (c.2.2 d)) fun _ => k) δn δl := fun D os as st γ σ H o st' Q q P => by
  obtain ⟨c, st2, q1, q2⟩ := M.bind_inv q
  obtain ⟨y, st3, q3, q4⟩ := M.bind_inv q2
  obtain ⟨d, st4, q5, q6⟩ := M.bind_inv q4
  obtain ⟨_, st5, q7, q8⟩ := M.bind_inv q6
  obtain ⟨ed, rfl⟩ := M.o_inv q5
  clear q q2 q4 q6
  refine hc os as st γ σ H c st2 Q q1 _ fun cv H2 as2 g2 S2 p2 => ?_
  obtain ⟨rfl, hq⟩ := hy os as2 st2 γ σ H2 y _ S2 q3
  obtain ⟨i, u1, f1⟩ := c
  cases u1 with
  | dct ks us =>
    simp only [sdAppU] at ed
    cases ek : keyU y with
    | none => rw [ek] at ed; cases ed
    | some key =>
      rw [ek] at ed
      simp only at ed
      split at ed
      case isFalse => cases ed
      rename_i hsz
      obtain ⟨a, A, A1, A', A2, e0, eA, ow, pl⟩ := p2.ex
      have ow' : ownF F.G (rts as2) (ban F os as2) (.dct ks us) cv H2 A' := by cases r <;> exact ow
      obtain ⟨dd, vs, B, e1, e2, e3, l, z⟩ := ow'
      have lv : ks.length = vs.length := by rw [ownFs_len z]; exact l
      refine ⟨dd, e1, .inl ⟨_, .inl e3⟩, hq _ fun yv py => ?_⟩
      have eyv := im_key ek py
      refine ⟨Nat.zero_le _, fun p hp => ?_⟩
      have ndp : dd ≠ p := fun z => by rw [z, hp] at e3; cases e3
      obtain ⟨xv, exv, pxv⟩ := S2.get hj
      refine ⟨ks.zip vs, key, by rw [upd_ne ndp]; exact e3, eyv, by rw [List.length_zip, ← lv, Nat.min_self]; exact hsz.1, fun w hw => ?_, fun hw => ?_⟩
      · cases ei : idxK key ks with
        | none => rw [idxK_none ei] at hw; cases hw
        | some jj =>
          rw [ei] at ed
          simp only at ed
          cases eu : us[jj]? with
          | none => rw [eu] at ed; cases ed
          | some u =>
            rw [eu] at ed
            cases u with
            | lst xs =>
              simp only at ed
              split at ed
              case isFalse => cases ed
              rename_i hxs
              cases ed
              have S3 := S2.ex (Ex.new (o := .lst []) hp)
              obtain ⟨d', vs', w', f1', f2', f3', f4', f5', hole⟩ := (p2.go0 S2 (Ex.new (o := .lst []) hp)).key eu
              have ed' : d' = dd := by rw [e1] at f1'; cases f1'; rfl
              subst ed'
              have ev : vs' = vs := by
                rw [upd_ne ndp, e3] at f2'
                have h1 : ks.zip vs = ks.zip vs' := by injection f2' with q; injection q
                have h2 := congrArg (List.map Prod.snd) h1
                rw [List.map_snd_zip (by omega), List.map_snd_zip (by omega)] at h2
                exact h2.symm
              subst ev
              have ww : w = w' := by rw [idxK_val ei f5'] at hw; cases hw; rfl
              subst ww
              obtain ⟨b, ys, C, g1', g3', zz, nB, lt, fin⟩ := hole.setL (us' := xs ++ [x]) S3
              obtain ⟨zC, hv⟩ := (flat_ownFs hxs.2).mp zz
              subst g1' zC
              refine ⟨.inl ⟨rfl, ys, EL.sqL_of g3'⟩, xv, exv, b, ys, xv, rfl, rfl, g3', by rw [imAll_len hv]; exact hxs.1, ?_⟩
              unfold putC at q7
              simp only [lt, if_true] at q7
              cases q7
              refine h2 D os as2 _ γ σ _ o st' (fin (ys ++ [xv]) fun H4 t4 _ => ?_) q8 P
              refine (flat_ownFs (by simp [hxs.2, hsz.2])).mpr ⟨rfl, imAll_snoc (imAll_map t4 hv) (t4 _ _ (im_st (RB.of_ex (Ex.new hp)) _ _ pxv))⟩
            | _ => cases ed
      · cases ei : idxK key ks with
        | some jj =>
          obtain ⟨w, ew⟩ : ∃ w, vs[jj]? = some w := ⟨_, List.getElem?_eq_getElem (by rw [← lv]; exact idxK_lt ei)⟩
          rw [idxK_val ei ew] at hw; cases hw
        | none =>
          rw [ei] at ed
          simp only at ed
          cases ed
          rw [putK_zip lv ei]
          refine ⟨.inl ⟨rfl, [], EL.sqL_of (by rw [upd_ne ndp.symm]; exact upd_same)⟩, xv, exv, p, [], xv, rfl, rfl, by rw [upd_ne ndp.symm]; exact upd_same, by decide, ?_⟩
          obtain ⟨k1, hk1, hl1⟩ := nodup_fresh (os.map (·.1)) δ.length
          have S3 := S2.grow hk1 hp (Ex.new (o := .lst []) hp) (by rw [upd_same]; exact fun z => nomatch z)
          have lt := S2.sto.lt e0
          unfold putC at q7
          simp only [lt, if_true] at q7
          cases q7
          have nd := sa_nodup as2 i (List.nodup_append.mp S2.nd).2.1 e0
          rw [eA, e2] at nd
          have nd1 := List.nodup_append.mp nd
          have nd2 := List.nodup_cons.mp nd1.2.1
          have np : ∀ c ∈ A, c ≠ p := fun c m e => S2.ok c (.inr (.inr (mem_fl (List.mem_of_getElem? e0) m))) (e ▸ hp)
          have mA1 : ∀ c ∈ A1, c ∈ A := fun c m => by rw [eA]; exact List.mem_append_left _ m
          have mA2 : ∀ c ∈ A2, c ∈ A := fun c m => by rw [eA]; exact List.mem_append_right _ (List.mem_append_right _ m)
          have mB : ∀ c ∈ B, c ∈ A := fun c m => by rw [eA, e2]; exact List.mem_append_right _ (List.mem_append_left _ (List.mem_cons_of_mem _ m))
          refine h2 D os _ _ γ σ _ o st' (S3.give (i := i) (x := a) (b := dd) (A0 := A) (A := [p]) (A1 := A1 ++ ((dd :: (B ++ [p])) ++ A2)) (H' := upd (upd (upd H2 p (.lst [])) dd (.dK ((ks ++ [key]).zip (vs ++ [V.ref p])))) p (.lst ([] ++ [xv]))) ?_ hl1 e0 (by rw [eA, e2]; exact List.mem_append_right _ List.mem_cons_self) (o := .dK (ks.zip vs)) (by rw [upd_ne ndp]; exact e3) (fun _ z => by cases z) (fun _ _ z => by cases z) (fun c w e ne m => ?_) (fun c ne => ?_) (fun c m xs => ?_) (fun c m w z => ?_) fun up => ?_) q8 P
          · rw [eA, e2]
            simp only [List.append_assoc, List.cons_append]
            refine List.Perm.append_left A1 (List.Perm.cons dd (List.Perm.append_left B ?_))
            exact (List.perm_append_comm (l₁ := [p]) (l₂ := A2))
          · rw [List.mem_singleton] at m
            rw [upd_ne m, upd_ne ne]; exact e
          · by_cases z1 : c = p
            · rw [z1, upd_same]; exact fun q => nomatch q
            · rw [upd_ne z1]
              by_cases z2 : c = dd
              · rw [z2, upd_same]; exact fun q => nomatch q
              · rw [upd_ne z2]; exact ne
          · rw [List.mem_singleton] at m; rw [m, upd_same]; exact fun z => nomatch z
          · rw [List.mem_singleton] at m; rw [m, upd_same]; exact fun z => nomatch z
          · have up2 : ∀ u v, im F.G (rts as2) (ban F os as2) u v H2 → im F.G (rts as2) (ban F os (as2.set i (a, A1 ++ ((dd :: (B ++ [p])) ++ A2)))) u v (upd (upd (upd H2 p (.lst [])) dd (.dK ((ks ++ [key]).zip (vs ++ [V.ref p])))) p (.lst ([] ++ [xv]))) := fun u v h => up u v (im_st (RB.of_ex (Ex.new hp)) _ _ (im_sub (sub_cons fun c m => by rw [List.mem_singleton] at m; rw [m]; exact hp) _ _ h))
            refine pl _ _ _ (.dct (ks ++ [key]) (us ++ [.lst [x]])) (dd :: (B ++ [p])) up2 (fun c z => ?_) ?_
            · have cA : c ∈ A := z.elim (mA1 c) (mA2 c)
              rw [upd_ne (np c cA), upd_ne fun e => ?_, upd_ne (np c cA)]
              subst e
              rcases z with z | z
              · exact nd1.2.2 c z c List.mem_cons_self rfl
              · exact nd2.1 (List.mem_append_right _ z)
            · have : ownF F.G (rts as2) (ban F os (as2.set i (a, A1 ++ ((dd :: (B ++ [p])) ++ A2)))) (.dct (ks ++ [key]) (us ++ [.lst [x]])) cv (upd (upd (upd H2 p (.lst [])) dd (.dK ((ks ++ [key]).zip (vs ++ [V.ref p])))) p (.lst ([] ++ [xv]))) (dd :: (B ++ [p])) := by
                refine ⟨dd, vs ++ [.ref p], B ++ [p], e1, rfl, by rw [upd_ne ndp, upd_same], by rw [List.length_append, List.length_append, l]; rfl, ownFs_snoc (u := .lst [x]) (v := .ref p) (A' := [p]) up2 ⟨p, [xv], [], rfl, rfl, upd_same, xv, [], [], [], rfl, rfl, (leaf_ownF hsz.2).mpr ⟨rfl, up2 _ _ pxv⟩, rfl, rfl⟩ (fun c m => ?_) z⟩
                · rw [upd_ne (np c (mB c m)), upd_ne fun e => nd2.1 (by rw [← e]; exact List.mem_append_left _ m), upd_ne (np c (mB c m))]
              cases r <;> exact this
  | _ => cases ed
end
end UX

set_option Elab.async false
set_option linter.all false
set_option maxRecDepth 100000
set_option maxHeartbeats 4000000
set_option autoImplicit false
namespace UX
open PySem PySem.Spec PyProof.Rows L2
open EL (Ex RB BOk Bn TK FnG okG)
/-! ### dicts, read -/
def getU : U → U → Option (Option U)
  | .dct ks us, k => match keyU k with
    | some k => match idxK k ks with
      | some j => (us[j]?).map some
      | none => some none
    | none => none
  | .dcT ks us, k => match tkeyU k with
    | some k => match idxK k ks with
      | some j => (us[j]?).map some
      | none => some none
    | none => none
  | _, _ => none
section
variable {F : Fr} {os : Os} {as : SA} {H : Hp}
theorem im_keys {G : Cxt} {rs : List Addr} {B : Bn} : ∀ {us : List U} {vs : List V} {ks : List Key}, keysU us = some ks → imAll G rs B us vs H → vs = ks.map kV
  | [], _, _, e, h => by cases e; exact h
  | u :: us, _, ks, e, ⟨v, r, ev, h1, h2⟩ => by
    unfold keysU at e
    cases e1 : keyU u with
    | none => rw [e1] at e; cases e
    | some k =>
      cases e2 : keysU us with
      | none => rw [e1, e2] at e; cases e
      | some ks' =>
        rw [e1, e2] at e
        cases e
        rw [ev, im_key e1 h1, im_keys e2 h2]; rfl
theorem rd_get {d k : U} {dv kv : V} {r : Option U} (e : getU d k = some r) (hd : rd F os as d dv H) (hk : rd F os as k kv H) : ∃ a o, dv = .ref a ∧ IsD H a ∧ DGet H a kv o ∧ match r with
    | some u => ∃ v, o = some v ∧ im F.G (rts as) (ban F os as) u v H
    | none => o = none := by
  cases d with
  | dct ks us =>
    obtain ⟨a, vs, e1, n, e3, l, hv⟩ := hd
    simp only [getU] at e
    cases ek : keyU k with
    | none => rw [ek] at e; cases e
    | some key =>
      rw [ek] at e
      simp only at e
      have ekv : kv = kV key := by
        have hk0 := rd_im0 hk
        exact im_key ek hk0
      cases ei : idxK key ks with
      | none =>
        rw [ei] at e
        cases e
        exact ⟨a, none, e1, .inl ⟨_, e3⟩, .inl ⟨_, key, e3, ekv, (idxK_none ei).symm⟩, rfl⟩
      | some j =>
        rw [ei] at e
        simp only at e
        obtain ⟨u, eu, rfl⟩ := Option.map_eq_some_iff.mp e
        obtain ⟨v, ev, pv⟩ := imAll_get hv eu
        exact ⟨a, some v, e1, .inl ⟨_, e3⟩, .inl ⟨_, key, e3, ekv, (idxK_val ei ev).symm⟩, v, rfl, pv⟩
  | dcT ks us =>
    obtain ⟨a, vs, e1, n, e3, l, hv⟩ := hd
    simp only [getU] at e
    cases k with
    | tup kus =>
      simp only [tkeyU] at e
      cases ek : keysU kus with
      | none => rw [ek] at e; cases e
      | some key =>
        rw [ek] at e
        simp only at e
        obtain ⟨b, ws, eb, hb, hw⟩ := hk
        have ekv := im_keys ek hw
        rw [ekv] at hb
        cases ei : idxK key ks with
        | none =>
          rw [ei] at e
          cases e
          exact ⟨a, none, e1, .inr ⟨_, e3⟩, .inr ⟨_, key, b, e3, eb, hb, (idxK_none ei).symm⟩, rfl⟩
        | some j =>
          rw [ei] at e
          simp only at e
          obtain ⟨u, eu, rfl⟩ := Option.map_eq_some_iff.mp e
          obtain ⟨v, ev, pv⟩ := imAll_get hv eu
          exact ⟨a, some v, e1, .inr ⟨_, e3⟩, .inr ⟨_, key, b, e3, eb, hb, (idxK_val ei ev).symm⟩, v, rfl, pv⟩
    | _ => cases e
  | _ => cases e
end
def getD2 (d k z : U) : Option U := (getU d k).map fun r => r.getD z
section
variable {F : Fr} {δ : Dl} {td ty tx ta tb : TE} {wd wk wx wa wb : M U}
theorem ev_dget2 (hd : EvR F td δ wd) (hk : EvR F ty δ wk) (hx : EvW F tx δ wx) : EvW F (tDGet2 td ty tx) δ (.bind wd fun d => .bind wk fun k => .bind wx fun z => .o (getD2 d k z)) := fun os as st γ σ H c st' S q QQ kk => by
  obtain ⟨d, st1, q1, q2⟩ := M.bind_inv q
  obtain ⟨k, st2, q3, q4⟩ := M.bind_inv q2
  obtain ⟨z, st3, q5, q6⟩ := M.bind_inv q4
  obtain ⟨e, rfl⟩ := M.o_inv q6
  clear q q2 q4
  obtain ⟨r, er, ec⟩ := Option.map_eq_some_iff.mp e
  refine hd os as st γ σ H d _ S q1 _ fun dv H1 as1 g1 S1 pd => ?_
  have isd : ∃ a, dv = .ref a ∧ IsD H1 a := by
    cases d with
    | dct ks us => obtain ⟨a, vs, e1, n, e3, _⟩ := pd; exact ⟨a, e1, .inl ⟨_, e3⟩⟩
    | dcT ks us => obtain ⟨a, vs, e1, n, e3, _⟩ := pd; exact ⟨a, e1, .inr ⟨_, e3⟩⟩
    | _ => cases er
  obtain ⟨a, ea, hi⟩ := isd
  refine ⟨a, ea, hi, hk os as1 st1 γ σ H1 k _ S1 q3 _ fun kv H2 as2 g2 S2 pk => hx os as2 st2 γ σ H2 z _ S2 q5 _ fun zv H3 as3 g3 S3 pz => ?_⟩
  obtain ⟨a', o, ea', _, hg, hm⟩ := rd_get er (rd_go g3 (rd_go g2 pd)) (rd_go g3 pk)
  rw [ea] at ea'
  cases ea'
  refine ⟨o, hg, kk _ H3 as3 ((g1.trans g2).trans g3) S3 ?_⟩
  subst ec
  cases r with
  | none => rw [show o = none from hm]; exact pz
  | some u => obtain ⟨v, rfl, pv⟩ := hm; exact pv
def inU (k d : U) : Option U := (getU d k).map fun r => .bl r.isSome
def notInU (k d : U) : Option U := (getU d k).map fun r => .bl (!r.isSome)
theorem ev_din (hk : EvR F ty δ wk) (hd : EvR F td δ wd) : EvW F (tDIn ty td) δ (op2 inU wk wd) := fun os as st γ σ H c st' S q QQ kk => by
  obtain ⟨k, st1, q1, q2⟩ := M.bind_inv q
  obtain ⟨d, st2, q3, q4⟩ := M.bind_inv q2
  obtain ⟨e, rfl⟩ := M.o_inv q4
  clear q q2
  obtain ⟨r, er, ec⟩ := Option.map_eq_some_iff.mp e
  refine hk os as st γ σ H k _ S q1 _ fun kv H1 as1 g1 S1 pk => hd os as1 st1 γ σ H1 d _ S1 q3 _ fun dv H2 as2 g2 S2 pd => ?_
  obtain ⟨a, o, ea, _, hg, hm⟩ := rd_get er pd (rd_go g2 pk)
  refine ⟨a, o, ea, hg, kk _ H2 as2 (g1.trans g2) S2 ?_⟩
  subst ec
  cases r with
  | none => rw [show o = none from hm]; rfl
  | some u => obtain ⟨v, rfl, pv⟩ := hm; rfl
theorem ev_dnotin (hk : EvR F ty δ wk) (hd : EvR F td δ wd) : EvW F (tDNotIn ty td) δ (op2 notInU wk wd) := fun os as st γ σ H c st' S q QQ kk => by
  obtain ⟨k, st1, q1, q2⟩ := M.bind_inv q
  obtain ⟨d, st2, q3, q4⟩ := M.bind_inv q2
  obtain ⟨e, rfl⟩ := M.o_inv q4
  clear q q2
  obtain ⟨r, er, ec⟩ := Option.map_eq_some_iff.mp e
  refine hk os as st γ σ H k _ S q1 _ fun kv H1 as1 g1 S1 pk => hd os as1 st1 γ σ H1 d _ S1 q3 _ fun dv H2 as2 g2 S2 pd => ?_
  obtain ⟨a, o, ea, _, hg, hm⟩ := rd_get er pd (rd_go g2 pk)
  refine ⟨a, o, ea, hg, kk _ H2 as2 (g1.trans g2) S2 ?_⟩
  subst ec
  cases r with
  | none => rw [show o = none from hm]; rfl
  | some u => obtain ⟨v, rfl, pv⟩ := hm; rfl
def itemU (d k : U) : Option U := (getU d k).join
theorem ev_ditem (hd : EvR F td δ wd) (hk : EvR F ty δ wk) : EvW F (tDGet td ty) δ (op2 itemU wd wk) := fun os as st γ σ H c st' S q QQ kk => by
  obtain ⟨d, st1, q1, q2⟩ := M.bind_inv q
  obtain ⟨k, st2, q3, q4⟩ := M.bind_inv q2
  obtain ⟨e, rfl⟩ := M.o_inv q4
  clear q q2
  unfold itemU at e
  cases er : getU d k with
  | none => rw [er] at e; cases e
  | some r =>
    rw [er] at e
    cases r with
    | none => cases e
    | some u =>
      cases e
      refine hd os as st γ σ H d _ S q1 _ fun dv H1 as1 g1 S1 pd => hk os as1 st1 γ σ H1 k _ S1 q3 _ fun kv H2 as2 g2 S2 pk => ?_
      obtain ⟨a, o, ea, _, hg, hm⟩ := rd_get er (rd_go g2 pd) pk
      obtain ⟨v, rfl, pv⟩ := hm
      exact ⟨a, v, ea, hg, kk _ H2 as2 (g1.trans g2) S2 pv⟩
/-! ### small built-ins -/
def absU : U → Option U
  | .int i => some (.int (if i < 0 then -i else i))
  | _ => none
def int1U : U → Option U
  | .int i => some (.int i)
  | .bl b => some (.int (if b then 1 else 0))
  | _ => none
def min2U : U → U → Option U
  | .int i, .int j => some (.int (if j < i then j else i))
  | _, _ => none
def max2U : U → U → Option U
  | .int i, .int j => some (.int (if j > i then j else i))
  | _, _ => none
theorem ok_abs {r : List V → Hp → VK → Prop} (hr : ∀ (i : Int) (H : Hp) (Q : VK), Q (.int (if i < 0 then -i else i)) H → r [.int i] H Q) : Op1Ok F r absU := fun os as H a c x ok ha e QQ k => by
  cases a <;> simp [absU] at e
  subst e
  rw [show x = _ from ha]
  exact hr _ _ _ (k _ H (Ex.refl H) rfl)
theorem ok_int1 {r : List V → Hp → VK → Prop} (hr : ∀ (i : Int) (H : Hp) (Q : VK), Q (.int i) H → r [.int i] H Q) (hb : ∀ (b : Bool) (H : Hp) (Q : VK), Q (.int (if b then 1 else 0)) H → r [.bl b] H Q) : Op1Ok F r int1U := fun os as H a c x ok ha e QQ k => by
  cases a <;> simp [int1U] at e
  · subst e
    rw [show x = _ from ha]
    exact hb _ _ _ (k _ H (Ex.refl H) rfl)
  · subst e
    rw [show x = _ from ha]
    exact hr _ _ _ (k _ H (Ex.refl H) rfl)
theorem ev_cb2 {r : List V → Hp → VK → Prop} {f : U → U → Option U} (h : ∀ os as H a b c x y, rd F os as a x H → rd F os as b y H → f a b = some c → ∀ QQ : VK, (∀ v H', Ex H H' → im F.G (rts as) (ban F os as) c v H' → QQ v H') → r [x, y] H QQ) (ha : EvR F ta δ wa) (hb : EvR F tb δ wb) : EvW F (tCB r (tCons ta (tCons tb tNil))) δ (op2 f wa wb) := fun os as st γ σ H c st' S q QQ k => by
  obtain ⟨a, st1, qa, q1⟩ := M.bind_inv q
  obtain ⟨b, st2, qb, q2⟩ := M.bind_inv q1
  obtain ⟨e, rfl⟩ := M.o_inv q2
  exact ha os as st γ σ H a st1 S qa _ fun x H1 as1 g1 S1 px => hb os as1 st1 γ σ H1 b _ S1 qb _ fun y H2 as2 g2 S2 py => h os as2 H2 a b c x y (rd_go g2 px) py e QQ fun v H3 e3 p3 => k v H3 as2 ((g1.trans g2).trans (Go.of_ex e3)) (S2.ex e3) p3
theorem ev_min2 (ha : EvR F ta δ wa) (hb : EvR F tb δ wb) : EvW F (tCB (fun xs H Q => ∃ i j, xs = [.int i, .int j] ∧ Q (.int (if j < i then j else i)) H) (tCons ta (tCons tb tNil))) δ (op2 min2U wa wb) := ev_cb2 (fun os as H a b c x y px py e QQ k => by
  cases a <;> cases b <;> simp [min2U] at e
  subst e
  exact ⟨_, _, by rw [show x = _ from px, show y = _ from py], k _ H (Ex.refl H) rfl⟩) ha hb
theorem ev_max2 (ha : EvR F ta δ wa) (hb : EvR F tb δ wb) : EvW F (tCB (fun xs H Q => ∃ i j, xs = [.int i, .int j] ∧ Q (.int (if j > i then j else i)) H) (tCons ta (tCons tb tNil))) δ (op2 max2U wa wb) := ev_cb2 (fun os as H a b c x y px py e QQ k => by
  cases a <;> cases b <;> simp [max2U] at e
  subst e
  exact ⟨_, _, by rw [show x = _ from px, show y = _ from py], k _ H (Ex.refl H) rfl⟩) ha hb
end
end UX

set_option Elab.async false
set_option linter.all false
set_option maxRecDepth 100000
set_option maxHeartbeats 4000000
set_option autoImplicit false
namespace UX
open PySem PySem.Spec PyProof.Rows L2
open EL (Ex RB BOk Bn TK FnG okG rEqU rNeU)
/-! ### helpers for the printed texts -/
section
variable {F : Fr} {S L : Type} {δ : Dl} {t2 : TS} {δn : S → Dl} {δl : L → Dl}
theorem blk_par2 {i0 i1 : Nat} {ta tb : TE} {wa wb : M U} {k : U → U → M (Out S L)} (ha : EvW F ta δ wa) (hb : EvW F tb δ wb) (h2 : ∀ a b, Blk F t2 ((δ.set i0 (some (.im a))).set i1 (some (.im b))) (k a b) δn δl) : Blk F (tSeq (tPar i0 i1 (tCons ta (tCons tb tNil))) t2) δ (.bind wa fun a => .bind wb fun b => k a b) δn δl := fun D os as st γ σ H o st' Q q P => by
  obtain ⟨a, st1, q1, q2⟩ := M.bind_inv q
  obtain ⟨b, st2, q3, q4⟩ := M.bind_inv q2
  clear q q2
  exact ha os as st γ σ H a _ Q q1 _ fun x H1 as1 g1 S1 px => hb os as1 st1 γ σ H1 b _ S1 q3 _ fun y H2 as2 g2 S2 py => ⟨x, y, rfl, h2 a b D os as2 st2 γ _ H2 o st' ((S2.set (x := .im a) (im_go g2 px)).set (x := .im b) py) q4 P⟩
end
section
variable {F : Fr} {δ : Dl} {tt : TT} {te : TE}
theorem lcp2 {i j : Nat} {vs : List Nat} {wt : U → U → M Bool} {we : U → U → M U} (hi : i ∈ vs) (hj : j ∈ vs) (h : ∀ a b, EvT F tt ((δ.set i (some (.im a))).set j (some (.im b))) (wt a b) ∧ EvW F te ((δ.set i (some (.im a))).set j (some (.im b))) (we a b)) :
    ∀ u st r, un2 u wt st = some r → ∃ δ', TgOk F (gTup F.G.K 2 (gCons (gName i) (gCons (gName j) gNil))) vs δ u δ' ∧ EvT F tt δ' (un2 u wt) ∧ EvW F te δ' (un2 u we) := by
  intro u st r e
  cases u with
  | tup us => ?_
  | _ => cases e
  match us, e with
  | [a, b], e => exact ⟨_, tg_two hi hj, h a b⟩
theorem lcp3 {i j l : Nat} {vs : List Nat} {wt : U → U → U → M Bool} {we : U → U → U → M U} (hi : i ∈ vs) (hj : j ∈ vs) (hl : l ∈ vs) (h : ∀ a b c, EvT F tt (((δ.set i (some (.im a))).set j (some (.im b))).set l (some (.im c))) (wt a b c) ∧ EvW F te (((δ.set i (some (.im a))).set j (some (.im b))).set l (some (.im c))) (we a b c)) :
    ∀ u st r, un3 u wt st = some r → ∃ δ', TgOk F (gTup F.G.K 3 (gCons (gName i) (gCons (gName j) (gCons (gName l) gNil)))) vs δ u δ' ∧ EvT F tt δ' (un3 u wt) ∧ EvW F te δ' (un3 u we) := by
  intro u st r e
  cases u with
  | tup us => ?_
  | _ => cases e
  match us, e with
  | [a, b, c], e => exact ⟨_, tg_three hi hj hl, h a b c⟩
end
end UX

set_option Elab.async false
set_option linter.all false
set_option maxRecDepth 100000
set_option maxHeartbeats 4000000
set_option autoImplicit false
namespace UX
open PySem PySem.Spec PyProof.Rows L2
open EL (Ex RB BOk Bn TK FnG okG rEqU rNeU)
/-! ### two walked at once -/
def zipL (a b : List U) : List U := List.zipWith (fun x y => U.tup [x, y]) a b
def zipU : U → U → Option (List U)
  | .lst a, .lst b => some (zipL a b)
  | .tup a, .tup b => some (zipL a b)
  | _, _ => none
def zipW (w w' : M U) : M (List U) := .bind w fun u => .bind w' fun u' => .o (zipU u u')
theorem zipL_len (a b : List U) : (zipL a b).length = min a.length b.length := List.length_zipWith
theorem zipL_get {a b : List U} {i : Nat} {u : U} (h : (zipL a b)[i]? = some u) : ∃ x y, a[i]? = some x ∧ b[i]? = some y ∧ u = .tup [x, y] := by
  unfold zipL at h
  rw [List.getElem?_zipWith] at h
  cases ea : a[i]? with
  | none => rw [ea] at h; cases h
  | some x =>
    cases eb : b[i]? with
    | none => rw [ea, eb] at h; cases h
    | some y => rw [ea, eb] at h; cases h; exact ⟨x, y, rfl, rfl, rfl⟩
section
variable {F : Fr} {δ : Dl} {te ta tb : TE} {w wa wb : M U}
theorem zip_pair {os : Os} {as : SA} {x y : U} {v v' : V} {H : Hp} {T : Addr} (hT : H T = none) (hx : im F.G (rts as) (ban F os as) x v H) (hy : im F.G (rts as) (ban F os as) y v' H) : im F.G (rts as) (ban F os as) (.tup [x, y]) (.ref T) (upd H T (.tup [v, v'])) :=
  ⟨T, [v, v'], rfl, upd_same, v, [v'], rfl, im_st (RB.of_ex (Ex.new hT)) _ _ hx, v', [], rfl, im_st (RB.of_ex (Ex.new hT)) _ _ hy, rfl⟩
theorem src_zip (ha : EvW F ta δ wa) (hb : EvW F tb δ wb) : Src F (RZ.iZipA F.G.K (tCons ta (tCons tb tNil))) δ (zipW wa wb) := fun os as st γ σ H us st' S q Q k => by
  obtain ⟨u, st1, qu, q1⟩ := M.bind_inv q
  obtain ⟨u', st2, qu', q2⟩ := M.bind_inv q1
  obtain ⟨e, rfl⟩ := M.o_inv q2
  refine ha os as st γ σ H _ _ S qu _ fun v H1 as1 g1 S1 p1 => ?_
  have S1' : SDo F os as1 st1 ([(u, v)] ++ γ) H1 σ δ := S1.ghost fun z m => by rw [List.mem_singleton] at m; rw [m]; exact p1
  refine hb os as1 st1 _ σ H1 _ _ S1' qu' _ fun v' H2 as2 g2 S2 p2 => ?_
  have S3 : SDo F os as2 st' ([(u', v')] ++ ([(u, v)] ++ γ)) H2 σ δ := S2.ghost fun z m => by rw [List.mem_singleton] at m; rw [m]; exact p2
  have pu : im F.G (rts as2) (ban F os as2) u v H2 := S2.gh (u, v) List.mem_cons_self
  have G3 : SDo F os as2 st' ([(u', v'), (u, v)] ++ γ) H2 σ δ := S3
  clear S1 S1' S2 S3 q q1 q2
  cases u <;> cases u' <;> simp [zipU] at e
  · subst e
    obtain ⟨a, vs, rfl, hs, hv⟩ := id pu
    obtain ⟨b, ws, rfl, hs', hv'⟩ := id p2
    refine ⟨a, b, vs, ws, rfl, .inr ⟨EL.sqT_of hs, EL.sqT_of hs', k _ H2 as2 _ (g1.trans g2) G3 ⟨fun i os as st γ σ δ H hi S2 => ?_, fun os as st γ σ δ H S2 => ?_, fun i os as st γ σ δ x H H' z e S2 y => ?_⟩⟩⟩ <;> obtain ⟨a2, vs2, ev2, ht, hv2⟩ := S2.gh _ (List.mem_cons_of_mem _ List.mem_cons_self) <;> obtain ⟨b2, ws2, ev3, ht', hv3⟩ := S2.gh _ List.mem_cons_self <;> cases ev2 <;> cases ev3
    · rw [zipL_len] at hi
      have h1 : i < vs2.length := by rw [imAll_len hv2]; omega
      have h2 : i < ws2.length := by rw [imAll_len hv3]; omega
      exact ⟨vs2, ws2, vs2[i], ws2[i], EL.sqT_of ht, EL.sqT_of ht', List.getElem?_eq_getElem h1, List.getElem?_eq_getElem h2⟩
    · refine ⟨vs2, ws2, EL.sqT_of ht, EL.sqT_of ht', ?_⟩
      rw [zipL_len, imAll_len hv2, imAll_len hv3]
      omega
    · obtain ⟨T, x1, x2, rfl, hT, rfl, f1, f2⟩ := y
      obtain ⟨c, d, e1, e2, rfl⟩ := zipL_get e
      obtain ⟨y1, e3, p3⟩ := imAll_get hv2 e1
      obtain ⟨y2, e4, p4⟩ := imAll_get hv3 e2
      rw [f1 _ (EL.sqT_of ht)] at e3
      rw [f2 _ (EL.sqT_of ht')] at e4
      cases e3; cases e4
      exact ⟨Ex.new hT, zip_pair hT p3 p4⟩
  · subst e
    obtain ⟨a, vs, rfl, nb, hs, hv⟩ := id pu
    obtain ⟨b, ws, rfl, nb', hs', hv'⟩ := id p2
    refine ⟨a, b, vs, ws, rfl, .inl ⟨EL.sqL_of hs, EL.sqL_of hs', k _ H2 as2 _ (g1.trans g2) G3 ⟨fun i os as st γ σ δ H hi S2 => ?_, fun os as st γ σ δ H S2 => ?_, fun i os as st γ σ δ x H H' z e S2 y => ?_⟩⟩⟩ <;> obtain ⟨a2, vs2, ev2, n2, ht, hv2⟩ := S2.gh _ (List.mem_cons_of_mem _ List.mem_cons_self) <;> obtain ⟨b2, ws2, ev3, n3, ht', hv3⟩ := S2.gh _ List.mem_cons_self <;> cases ev2 <;> cases ev3
    · rw [zipL_len] at hi
      have h1 : i < vs2.length := by rw [imAll_len hv2]; omega
      have h2 : i < ws2.length := by rw [imAll_len hv3]; omega
      exact ⟨vs2, ws2, vs2[i], ws2[i], EL.sqL_of ht, EL.sqL_of ht', List.getElem?_eq_getElem h1, List.getElem?_eq_getElem h2⟩
    · refine ⟨vs2, ws2, EL.sqL_of ht, EL.sqL_of ht', ?_⟩
      rw [zipL_len, imAll_len hv2, imAll_len hv3]
      omega
    · obtain ⟨T, x1, x2, rfl, hT, rfl, f1, f2⟩ := y
      obtain ⟨c, d, e1, e2, rfl⟩ := zipL_get e
      obtain ⟨y1, e3, p3⟩ := imAll_get hv2 e1
      obtain ⟨y2, e4, p4⟩ := imAll_get hv3 e2
      rw [f1 _ (EL.sqL_of ht)] at e3
      rw [f2 _ (EL.sqL_of ht')] at e4
      cases e3; cases e4
      exact ⟨Ex.new hT, zip_pair hT p3 p4⟩
end
/-! ### targets of any number of names -/
def gNames : List Nat → TGs
  | [] => gNil
  | i :: is => gCons (gName i) (gNames is)
def imS (δ : Dl) : List Nat → List U → Dl
  | i :: is, u :: us => imS (δ.set i (some (.im u))) is us
  | _, _ => δ
section
variable {F : Fr}
theorem names_ok {vs0 : List Nat} {os : Os} {as : SA} {st : Sto} {γ : List (U × V)} {H : Hp} {Q : L2.St → Hp → Prop} : ∀ {is : List Nat} {us : List U} {vs : List V} {σ : L2.St} {δ : Dl}, (∀ i ∈ is, i ∈ vs0) → is.length = us.length → SDo F os as st γ H σ δ → imAll F.G (rts as) (ban F os as) us vs H → (∀ σ', wipe σ' vs0 = wipe σ vs0 → SDo F os as st γ H σ' (imS δ is us) → Q σ' H) → gNames is vs σ H Q
  | [], [], vs, σ, δ, _, _, S, h, k => ⟨h, k σ rfl S⟩
  | i :: is, u :: us, _, σ, δ, hm, hl, S, ⟨v, r, e, h1, h2⟩, k => ⟨v, r, e, names_ok (fun j m => hm j (List.mem_cons_of_mem _ m)) (by simpa using hl) (S.set (x := .im u) h1) h2 fun σ' w S' => k σ' (by rw [w, wipe_set _ _ _ _ (hm i List.mem_cons_self)]) S'⟩
  | [], _ :: _, _, _, _, _, h, _, _, _ => by cases h
  | _ :: _, [], _, _, _, _, h, _, _, _ => by cases h
theorem wipD_imS {vs0 : List Nat} : ∀ {is : List Nat} {us : List U} {δ : Dl}, (∀ i ∈ is, i ∈ vs0) → wipD (imS δ is us) vs0 = wipD δ vs0
  | [], _, _, _ => by simp [imS]
  | _ :: _, [], _, _ => by simp [imS]
  | i :: is, u :: us, δ, h => by
    rw [imS, wipD_imS fun j m => h j (List.mem_cons_of_mem _ m), wipD_set _ _ _ _ (h i List.mem_cons_self)]
theorem tg_many {is vs : List Nat} {us : List U} {δ : Dl} (h : ∀ i ∈ is, i ∈ vs) (hl : is.length = us.length) : TgOk F (gTup F.G.K is.length (gNames is)) vs δ (.tup us) (imS δ is us) := ⟨wipD_imS h, fun os as st γ H σ v S ⟨p, xs, e, hs, hx⟩ Q k => ⟨p, xs, e, EL.sqT_of hs, by rw [imAll_len hx, hl], names_ok h hl S hx k⟩⟩
def un4 {α : Type} (u : U) (k : U → U → U → U → M α) : M α := match u with
  | .tup [a, b, c, d] => k a b c d
  | _ => .fail
def un5 {α : Type} (u : U) (k : U → U → U → U → U → M α) : M α := match u with
  | .tup [a, b, c, d, e] => k a b c d e
  | _ => .fail
section
variable {α : Type} {P : Dl → M α → Prop} {δ : Dl} {i0 i1 i2 i3 i4 i5 : Nat} {vs : List Nat}
theorem pat4 (h0 : i0 ∈ vs) (h1 : i1 ∈ vs) (h2 : i2 ∈ vs) (h3 : i3 ∈ vs) {k : U → U → U → U → M α} (h : ∀ a b c d, P (imS δ [i0, i1, i2, i3] [a, b, c, d]) (k a b c d)) : ∀ u st r, un4 u k st = some r → ∃ δ', TgOk F (gTup F.G.K 4 (gCons (gName i0) (gCons (gName i1) (gCons (gName i2) (gCons (gName i3) gNil))))) vs δ u δ' ∧ P δ' (un4 u k) := by
  intro u st r e
  cases u <;> first | (cases e; done) | skip
  rename_i us
  match us, e with
  | [a, b, c, d], e => exact ⟨_, tg_many (is := [i0, i1, i2, i3]) (by simp [h0, h1, h2, h3]) rfl, h a b c d⟩
theorem pat5 (h0 : i0 ∈ vs) (h1 : i1 ∈ vs) (h2 : i2 ∈ vs) (h3 : i3 ∈ vs) (h4 : i4 ∈ vs) {k : U → U → U → U → U → M α} (h : ∀ a b c d e, P (imS δ [i0, i1, i2, i3, i4] [a, b, c, d, e]) (k a b c d e)) : ∀ u st r, un5 u k st = some r → ∃ δ', TgOk F (gTup F.G.K 5 (gCons (gName i0) (gCons (gName i1) (gCons (gName i2) (gCons (gName i3) (gCons (gName i4) gNil)))))) vs δ u δ' ∧ P δ' (un5 u k) := by
  intro u st r e
  cases u <;> first | (cases e; done) | skip
  rename_i us
  match us, e with
  | [a, b, c, d, f], e => exact ⟨_, tg_many (is := [i0, i1, i2, i3, i4]) (by simp [h0, h1, h2, h3, h4]) rfl, h a b c d f⟩
theorem pat6 (h0 : i0 ∈ vs) (h1 : i1 ∈ vs) (h2 : i2 ∈ vs) (h3 : i3 ∈ vs) (h4 : i4 ∈ vs) (h5 : i5 ∈ vs) {k : U → U → U → U → U → U → M α} (h : ∀ a b c d e f, P (imS δ [i0, i1, i2, i3, i4, i5] [a, b, c, d, e, f]) (k a b c d e f)) : ∀ u st r, un6 u k st = some r → ∃ δ', TgOk F (gTup F.G.K 6 (gCons (gName i0) (gCons (gName i1) (gCons (gName i2) (gCons (gName i3) (gCons (gName i4) (gCons (gName i5) gNil))))))) vs δ u δ' ∧ P δ' (un6 u k) := by
  intro u st r e
  cases u <;> first | (cases e; done) | skip
  rename_i us
  match us, e with
  | [a, b, c, d, f, g], e => exact ⟨_, tg_many (is := [i0, i1, i2, i3, i4, i5]) (by simp [h0, h1, h2, h3, h4, h5]) rfl, h a b c d f g⟩
end
end
/-! ### three at once; one of one's own -/
section
variable {F : Fr} {S L : Type} {δ : Dl} {t2 : TS} {δn : S → Dl} {δl : L → Dl}
theorem blk_par3 {i0 i1 i2 : Nat} {ta tb tc : TE} {wa wb wc : M U} {k : U → U → U → M (Out S L)} (ha : EvW F ta δ wa) (hb : EvW F tb δ wb) (hc : EvW F tc δ wc) (h2 : ∀ a b c, Blk F t2 (((δ.set i0 (some (.im a))).set i1 (some (.im b))).set i2 (some (.im c))) (k a b c) δn δl) : Blk F (tSeq (tPar3 i0 i1 i2 (tCons ta (tCons tb (tCons tc tNil)))) t2) δ (.bind wa fun a => .bind wb fun b => .bind wc fun c => k a b c) δn δl := fun D os as st γ σ H o st' Q q P => by
  obtain ⟨a, st1, q1, q2⟩ := M.bind_inv q
  obtain ⟨b, st2, q3, q4⟩ := M.bind_inv q2
  obtain ⟨c, st3, q5, q6⟩ := M.bind_inv q4
  clear q q2 q4
  exact ha os as st γ σ H a _ Q q1 _ fun x H1 as1 g1 S1 px => hb os as1 st1 γ σ H1 b _ S1 q3 _ fun y H2 as2 g2 S2 py => hc os as2 st2 γ σ H2 c _ S2 q5 _ fun z H3 as3 g3 S3 pz => ⟨x, y, z, rfl, h2 a b c D os as3 st3 γ _ H3 o st' (((S3.set (x := .im a) (im_go (g2.trans g3) px)).set (x := .im b) (im_go g3 py)).set (x := .im c) pz) q6 P⟩
theorem blk_parWN {i0 i1 : Nat} {s : Sh} {ta tb : TE} {wa wb : M U} {k : U → U → M (Out S L)} (ha : EvW F ta δ wa) (hb : EvN F s tb δ wb) (h2 : ∀ a b, Blk F t2 ((δ.set i0 (some (.im a))).set i1 (some (.own s b))) (k a b) δn δl) : Blk F (tSeq (tPar i0 i1 (tCons ta (tCons tb tNil))) t2) δ (.bind wa fun a => .bind wb fun b => k a b) δn δl := fun D os as st γ σ H o st' Q q P => by
  obtain ⟨a, st1, q1, q2⟩ := M.bind_inv q
  obtain ⟨b, st2, q3, q4⟩ := M.bind_inv q2
  clear q q2
  refine ha os as st γ σ H a _ Q q1 _ fun x H1 as1 g1 S1 px => ?_
  have S1' : SDo F os as1 st1 ([(a, x)] ++ γ) H1 σ δ := S1.ghost fun z m => by rw [List.mem_singleton] at m; rw [m]; exact px
  refine hb os as1 st1 _ σ H1 b _ S1' q3 _ fun y H2 as2 A g2 S2 py n => ?_
  obtain ⟨j, hj, hl⟩ := nodup_fresh (os.map (·.1)) δ.length
  have S3 := S2 j hj
  have hl2 : (δ.set i0 (some (SV.im a))).length ≤ j := by rw [List.length_set]; exact hl
  exact ⟨x, y, rfl, h2 a b D _ as2 st2 γ _ H2 o st' (((S3.set (x := .im a) (S3.gh (a, x) List.mem_cons_self)).unghost (g := [(a, x)])).own hl2 py) q4 P⟩
end
end UX

set_option Elab.async false
set_option linter.all false
set_option maxRecDepth 100000
set_option maxHeartbeats 4000000
set_option autoImplicit false
namespace UX
open PySem PySem.Spec PyProof.Rows L2
open EL (Ex RB BOk Bn TK FnG okG rEqU rNeU)
/-! ### tables of the top, by text -/
def vTab (at_ : Str → Addr) : U → Option V
  | .top x => some (.ref (at_ x))
  | .str s => some (.str s)
  | .int i => some (.int i)
  | _ => none
theorem vTab_im {G : Cxt} {rs : List Addr} {B : Bn} {H : Hp} : ∀ {u : U} {v : V}, vTab G.at_ u = some v → im G rs B u v H
  | .top x, _, e => by cases e; rfl
  | .str s, _, e => by cases e; rfl
  | .int s, _, e => by cases e; rfl
structure TabF (K : PySem.W.Frag) (at_ : Str → Addr) (w : World) (d : Addr) (tab : List (Str × U)) : Prop where
  kd : ∃ es n, KDict K w d es n
  val : ∀ z u, tab.lookup z = some u → ∃ u0 v, PySem.W.nsIn K d z = some (some u0) ∧ vTab at_ u = some v ∧ RelV v u0
  no : ∀ z, tab.lookup z = none → PySem.W.nsIn K d z = some none
def rNotTab (K : PySem.W.Frag) (d : Addr) : R2 := fun x y H Q => ∃ (z : Str) (r : Option Value), x = .str z ∧ y = .ref d ∧ PySem.W.nsIn K d z = some r ∧ Q (.bl (!r.isSome)) H
def rInTab (K : PySem.W.Frag) (d : Addr) : R2 := fun x y H Q => ∃ (z : Str) (r : Option Value), x = .str z ∧ y = .ref d ∧ PySem.W.nsIn K d z = some r ∧ Q (.bl r.isSome) H
theorem op_notTab {X : Cx} {at_ : Str → Addr} {d : Addr} {tab : List (Str × U)} (T : TabF X.K at_ X.w d tab) : OpR X (compareOp .NotIn) (rNotTab X.K d) := by
  obtain ⟨es, n, D⟩ := T.kd
  exact op_notIn_kd D
theorem op_inTab {X : Cx} {at_ : Str → Addr} {d : Addr} {tab : List (Str × U)} (T : TabF X.K at_ X.w d tab) : OpR X (compareOp .In) (rInTab X.K d) := by
  obtain ⟨es, n, D⟩ := T.kd
  exact op_in_kd D
def notTabU (nm : Str) (tab : List (Str × U)) : U → U → Option U
  | .str z, .top x => if x = nm then some (.bl (tab.lookup z).isNone) else none
  | _, _ => none
def inTabU (nm : Str) (tab : List (Str × U)) : U → U → Option U
  | .str z, .top x => if x = nm then some (.bl (tab.lookup z).isSome) else none
  | _, _ => none
def itemTabU (nm : Str) (tab : List (Str × U)) : U → U → Option U
  | .top x, .str z => if x = nm then tab.lookup z else none
  | _, _ => none
section
variable {F : Fr} {w : World} {nm : Str} {tab : List (Str × U)} {δ : Dl}
theorem ev_top {x : Str} : EvW F (tC (.ref (F.G.at_ x))) δ (.ret (.top x)) := ev_c fun _ _ _ => rfl
theorem ok_notTab (T : TabF F.G.K F.G.at_ w (F.G.at_ nm) tab) : OpOk F (rNotTab F.G.K (F.G.at_ nm)) (notTabU nm tab) := fun os as H a b c x y ok ha hb e QQ k => by
  cases a <;> cases b <;> simp [notTabU] at e
  rename_i z _
  obtain ⟨rfl, rfl⟩ := e
  cases q : tab.lookup z with
  | none => exact ⟨z, none, ha, hb, T.no z q, k _ H (Ex.refl H) (by rw [q]; rfl)⟩
  | some u =>
    obtain ⟨u0, v, h1, _, _⟩ := T.val z u q
    exact ⟨z, some u0, ha, hb, h1, k _ H (Ex.refl H) (by rw [q]; rfl)⟩
theorem ok_inTab (T : TabF F.G.K F.G.at_ w (F.G.at_ nm) tab) : OpOk F (rInTab F.G.K (F.G.at_ nm)) (inTabU nm tab) := fun os as H a b c x y ok ha hb e QQ k => by
  cases a <;> cases b <;> simp [inTabU] at e
  rename_i z _
  obtain ⟨rfl, rfl⟩ := e
  cases q : tab.lookup z with
  | none => exact ⟨z, none, ha, hb, T.no z q, k _ H (Ex.refl H) (by rw [q]; rfl)⟩
  | some u =>
    obtain ⟨u0, v, h1, _, _⟩ := T.val z u q
    exact ⟨z, some u0, ha, hb, h1, k _ H (Ex.refl H) (by rw [q]; rfl)⟩
theorem ok_itemTab (T : TabF F.G.K F.G.at_ w (F.G.at_ nm) tab) : OpOk F (rIxD F.G.K w) (itemTabU nm tab) := fun os as H a b c x y ok ha hb e QQ k => by
  cases a <;> cases b <;> simp [itemTabU] at e
  rename_i z
  obtain ⟨rfl, e⟩ := e
  obtain ⟨u0, v, h1, h2, h3⟩ := T.val z c e
  obtain ⟨es, n, D⟩ := T.kd
  exact ⟨_, z, v, ha, hb, ⟨es, n, u0, D.at_, D.lit, h1, h3⟩, k _ H (Ex.refl H) (vTab_im h2)⟩
end
/-! ### a slot that holds a def of the top -/
def tCallJ (at_ : Str → Addr) (G : Cxt) (i : Nat) (fs : List (Str × (List U → M U))) (E : XK) (t : TA) : TE := fun σ H Q => ∃ p ∈ fs, tCallL i (at_ p.1) (spM G p.2) [] E t σ H Q
theorem pe_callJ {X : Cx} {at_ : Str → Addr} {G : Cxt} {i : Nat} {fs : List (Str × (List U → M U))} {E : XK} {t : TA} {e : Expr} (h : ∀ p ∈ fs, PE X e (tCallL i (at_ p.1) (spM G p.2) [] E t)) : PE X e (tCallJ at_ G i fs E t) :=
  ⟨fun pins s σ H Q I ⟨p, m, q⟩ => (h p m).run pins s σ H Q I q⟩
theorem callJ_nil {X : Cx} {at_ : Str → Addr} {G : Cxt} {i : Nat} {E : XK} {t : TA} {e : Expr} : ∀ p ∈ ([] : List (Str × (List U → M U))), PE X e (tCallL i (at_ p.1) (spM G p.2) [] E t) := fun _ m => nomatch m
theorem callJ_cons {X : Cx} {at_ : Str → Addr} {G : Cxt} {i : Nat} {E : XK} {t : TA} {e : Expr} {x : Str} {f : List U → M U} {l : List (Str × (List U → M U))} (h : PE X e (tCallL i (at_ x) (spM G f) [] E t)) (k : ∀ p ∈ l, PE X e (tCallL i (at_ p.1) (spM G p.2) [] E t)) : ∀ p ∈ (x, f) :: l, PE X e (tCallL i (at_ p.1) (spM G p.2) [] E t) := fun p m => (List.mem_cons.mp m).elim (fun z => z ▸ h) (k p)
def callJM (fs : List (Str × (List U → M U))) (u : U) (wa : M (List U)) : M U := match u with
  | .top x => match fs.lookup x with
    | some f => callM f wa
    | none => .fail
  | _ => .fail
theorem lookup_mem {α : Type} : ∀ {l : List (Str × α)} {x : Str} {a : α}, l.lookup x = some a → (x, a) ∈ l
  | [], _, _, h => nomatch h
  | (y, b) :: l, x, a, h => by
    rw [List.lookup_cons] at h
    split at h
    · rename_i e
      cases h
      rw [show x = y from by simpa using e]
      exact List.mem_cons_self
    · exact List.mem_cons_of_mem _ (lookup_mem h)
theorem ev_callJ {F : Fr} {δ : Dl} {i : Nat} {fs : List (Str × (List U → M U))} {E : XK} {ta : TA} {wa : M (List U)} {u : U} (hi : δ[i]? = some (some (.im u))) (h : EvAW F ta δ wa) : EvW F (tCallJ F.G.at_ F.G i fs E ta) δ (callJM fs u wa) := fun os as st γ σ H c st' S q QQ k => by
  obtain ⟨v, hv, pv⟩ := S.get hi
  cases u with
  | top x => ?_
  | _ => cases q
  have pv : v = .ref (F.G.at_ x) := pv
  subst pv
  simp only [callJM] at q
  cases e : fs.lookup x with
  | none => rw [e] at q; cases q
  | some f =>
    rw [e] at q
    exact ⟨(x, f), lookup_mem e, hv, ev_call (E := E) h os as st γ σ H c st' S q QQ k⟩
/-! ### helpers -/
theorem pg_tupK {X : Cx} (K : PySem.W.Frag) {es : List Expr} {k : Nat} {t : TGs} {n : Nat} {pos : Pos} (hc : X.calm = true) (h : PGs X es t) (hn : (assignEach es X.env).length = n := by rfl) (hst : (assignEach es X.env).findIdx? (·.1) = none := by rfl) (hK : X.K = K := by rfl) : PG X (.Tuple es k pos) (gTup K n t) := hK ▸ pg_tup hc h hn hst
section
variable {F : Fr} {S L : Type} {δ : Dl} {t2 : TS} {δn : S → Dl} {δl : L → Dl}
theorem blk_asgWN {i0 i1 : Nat} {s : Sh} {ta tb : TE} {wa wb : M U} {k : U → U → M (Out S L)} (ha : EvW F ta δ wa) (hb : EvN F s tb δ wb) (h2 : ∀ a b, Blk F t2 ((δ.set i0 (some (.im a))).set i1 (some (.own s b))) (k a b) δn δl) : Blk F (tSeq (tAsg (tTup (tCons ta (tCons tb tNil))) (gTup F.G.K 2 (gCons (gName i0) (gCons (gName i1) gNil)))) t2) δ (.bind wa fun a => .bind wb fun b => k a b) δn δl := fun D os as st γ σ H o st' Q q P => by
  obtain ⟨a, st1, q1, q2⟩ := M.bind_inv q
  obtain ⟨b, st2, q3, q4⟩ := M.bind_inv q2
  clear q q2
  refine ha os as st γ σ H a _ Q q1 _ fun x H1 as1 g1 S1 px => ?_
  have S1' : SDo F os as1 st1 ([(a, x)] ++ γ) H1 σ δ := S1.ghost fun z m => by rw [List.mem_singleton] at m; rw [m]; exact px
  refine hb os as1 st1 _ σ H1 b _ S1' q3 _ fun y H2 as2 A g2 S2 py n => ?_
  obtain ⟨j, hj, hl⟩ := nodup_fresh (os.map (·.1)) δ.length
  have S3 := S2 j hj
  have hl2 : (δ.set i0 (some (SV.im a))).length ≤ j := by rw [List.length_set]; exact hl
  have S4 := ((S3.set (i := i0) (x := .im a) (S3.gh (a, x) List.mem_cons_self)).unghost (g := [(a, x)])).own (i := i1) hl2 py
  exact ⟨(by decide : 2 ≤ sizeLine), fun p hp => ⟨p, [x, y], rfl, EL.sqT_of upd_same, rfl, x, [y], rfl, y, [], rfl, rfl, h2 a b D _ as2 st2 γ _ _ o st' (S4.ex (Ex.new hp)) q4 P⟩⟩
end
end UX

set_option Elab.async false
set_option linter.all false
set_option maxRecDepth 100000
set_option maxHeartbeats 4000000
set_option autoImplicit false
namespace UX
open PySem PySem.Spec PyProof.Rows L2
section
variable {X : Cx} (K : PySem.W.Frag)
theorem pe_fldK {e : Expr} {ta : TE} {f : Str} {pos : Pos} (he : PE X e ta) (hb : attributeBase e f X.env (eval e X.env) = eval e X.env) (hK : X.K = K := by rfl) : PE X (.Attribute e f pos) (tFld K ta f) := hK ▸ pe_fld he hb
theorem pi_zipAK {e e2 : Expr} {ta : TA} {p pos tpos : Pos} {elts : List Expr} {kk : Nat} (hg : Gl X "zip") (hm : X.mg "zip" = none) (ha : PA X [e, e2] ta)
    (hs : starEach [e, e2] X.env = (false, eval e X.env) :: starEach [e2] X.env := by rfl) (hpl : (backTo pos (starEach [e2] X.env)).any (·.1) = false := by rfl) (hK : X.K = K := by rfl) :
    PI X (.Tuple elts kk tpos) (.Call (.Name "zip" p) [e, e2] [] pos) (RZ.iZipA K ta) := hK ▸ RZ.pi_zipA hg hm ha hs hpl
theorem ix_kdictK (w : World) (hK : X.K = K := by rfl) (hw : X.w = w := by rfl) : IxR X (rIxD K w) := hK ▸ hw ▸ ix_kdict
theorem op_notTabK {at_ : Str → Addr} {w : World} {d : Addr} {tab : List (Str × U)} (T : TabF K at_ w d tab) (hK : X.K = K := by rfl) (hw : X.w = w := by rfl) : OpR X (compareOp .NotIn) (rNotTab K d) := by
  subst hK hw
  exact op_notTab T
theorem op_inTabK {at_ : Str → Addr} {w : World} {d : Addr} {tab : List (Str × U)} (T : TabF K at_ w d tab) (hK : X.K = K := by rfl) (hw : X.w = w := by rfl) : OpR X (compareOp .In) (rInTab K d) := by
  subst hK hw
  exact op_inTab T
end
open EL (Ex RB BOk Bn TK FnG okG rEqU rNeU)
section
variable {F : Fr} {S L : Type} {δ : Dl} {wi : TI} {g : TG} {tb t1 t2 : TS} {wl : M (List U)} {δ2 δl' : L → Dl} {tt : TT} {wt : M Bool}
theorem blk_forL (dr vs : List Nat) (δl : S → Dl) {f : U → S → M (Out S S)} {s0 : S} (h0 : wipD δ dr = δl s0) (hs : Src F wi δ wl)
    (hb : ∀ s u st r, f u s st = some r → ∃ δ', TgOk F g vs (δl s) u δ' ∧ Blk F tb δ' (f u s) δl δl) : Blk F (tFor wi g tb) δ (.bind wl fun us => forO f us s0) δl δ2 :=
  blk_for (vs := vs) hs (h0 ▸ weak_wip δ dr) fun u s => hb s u
theorem blk_whileL (dr : List Nat) (δl : S → Dl) {tc : TT} {c : S → M Bool} {b : S → M (Out S S)} {s0 : S} (h0 : wipD δ dr = δl s0) (hc : ∀ s, EvT F tc (δl s) (c s))
    (hb : ∀ s, Blk F tb (δl s) (b s) δl δl) : Blk F (tWhile tc tb) δ (whileO c b s0) δl δ2 :=
  blk_while (h0 ▸ weak_wip δ dr) hc hb
theorem blk_ifL (δn : S → Dl) {wo wu : M (Out S L)} (h : EvT F tt δ wt) (h1 : Blk F t1 δ wo δn δl') (h2 : Blk F t2 δ wu δn δl') : Blk F (tIfS tt t1 t2) δ (iteW wt wo wu) δn δl' := blk_if h h1 h2
end
end UX

set_option Elab.async false
set_option linter.all false
set_option maxRecDepth 100000
set_option maxHeartbeats 4000000
namespace UX
open PySem PySem.Spec PyProof.Rows L2
/-! ### set(t), t a tuple of tuples of ints -/
section
variable {P : Program} {w : World} {A : Around} {E : Value → Shared → Prop} {s : Shared}
/-- the set as it is made -/
abbrev set0 (w : World) : Obj := { cls := .type "set", dict := none, data := .set #[] 0 (.fresh 0 0 (!w.params.followText "set-order")) }
theorem call_set_ofTup {l : Addr} {items : Array Value} (ks : List (Addr × List Int)) {Q : Value → Shared → Prop} (hh : A.handled = none) (hl : s.heap.IsTuple l items) (hit : items.toList = ks.map fun p => Value.ref p.1) (hk : ∀ p ∈ ks, IsT P w s.heap p.2 p.1) (hfew : ks.length < 64) (hu : A.units + 3 < cLine)
    (h : ∀ (h' : Heap) (tk : Nat) L es ep t, SetTR P w h' s.heap.objs.size L es ep t → Got ks ks.length L → (∀ b o, s.heap.get? b = some o → h'.get? b = some o) → Q (.ref s.heap.objs.size) { s with heap := h', toks := tk }) : wpAny (model P w) A (call (.type "set") [.ref l]) Q E s := by
  have hn : items.size = ks.length := by rw [← Array.length_toList, hit, List.length_map]
  obtain ⟨c, tl, hmro⟩ := F.called_set.mro
  have hm := F.called_set.made
  have hb := F.called_set.sub
  refine wpAny_call (codeAny_of_tree ?_); show wpAny _ _ (callAny (.type "set") _) _ _ _
  refine wpAny_pure ⟨Code.quiet_builtin _ (by decide +kernel), codeAny_builtin F.entry_type_call ?_⟩; rw [Around.under_plain (weight_type_call_type "set" [.ref l] []) rfl]
  have h1 := F.called_set.notType; have h2 := F.called_set.canCreate; have h3 := F.typeCall_set_1 (.ref l)
  repeat (any_goals (first | assumption | wp_step))
  refine codeAny_mono (code_set_led1 (.ref l) (E := E) (Q₁ := fun ob s₁ => ob = .ref s.heap.objs.size ∧ s₁ = { s with heap := s.heap.push (set0 w) }) ⟨rfl, rfl⟩) fun r s₁ hr => ?_
  cases r with
  | error e => exact hr
  | ok fl =>
    cases fl with
    | ret ob =>
      obtain ⟨rfl, rfl⟩ := hr
      have hS : (s.heap.push (set0 w)).get? s.heap.objs.size = some (set0 w) := Heap.get?_push_size _ rfl
      have hT : Shared.TypeIs { s with heap := s.heap.push (set0 w) } (.ref s.heap.objs.size) "set" := ⟨_, hS, rfl⟩
      have h4 := F.called_set.init.lookup; have h5 := F.called_set.init.bind (.ref s.heap.objs.size)
      repeat (any_goals (first | assumption | wp_step))
      refine codeAny_mono (codeAny_call_builtin (R := wants (fun r s₂ => r = .none ∧ ∃ h' tk L es ep t, s₂ = { s with heap := h', toks := tk } ∧ SetTR P w h' s.heap.objs.size L es ep t ∧ Got ks ks.length L ∧ (∀ b o, s.heap.get? b = some o → h'.get? b = some o)) E) F.called_set.init.plain F.entry_set_init (check_set_init_1 hT ?_)) fun r₂ s₂ hr₂ => ?_
      · obtain ⟨ol, hol, hcl, nl, hdl⟩ := hl
        obtain ⟨ocls, odict, odata, oslots⟩ := ol
        simp only at hcl hdl
        subst hcl; subst hdl
        have hol' : (s.heap.push (set0 w)).get? l = some { cls := .type "tuple", dict := odict, data := .seq items nl, slots := oslots } := Heap.get?_push_of_some _ hol
        have k1 := F.sub_tuple_set; have k2 := F.sub_tuple_frozenset
        have k3 : (Value.type "tuple" == Value.type "dict") = false := by decide
        have hl1 : (s.heap.push (set0 w)).IsTuple l items := ⟨_, hol', rfl, nl, rfl⟩
        unfold Builtin.«set.__init__» noKeywords Builtin.Frozenset.updateFrom
        generalize hPI : pyIter = PI
        wp_walk
        subst hPI
        refine wpAny_pyIter_tuple hl1 (wpAny_bind (wpAny_runValue ?_))
        have hlS : l < s.heap.objs.size := Heap.lt_size hol
        have hh3 : A.in1.in1.in1.handled = none := by simp [hh]
        have hneI : l ≠ (s.heap.push (set0 w)).objs.size := by
          rw [Heap.size_push]; exact fun z => Nat.lt_irrefl _ (Nat.lt_of_lt_of_le (z ▸ hlS) (Nat.le_succ _))
        have hSf : s.heap.objs.size ∉ [(s.heap.push (set0 w)).objs.size, l] := by
          rw [Heap.size_push]; exact fun m => (List.mem_cons.mp m).elim (fun z => Nat.lt_irrefl _ (Nat.lt_of_lt_of_eq (Nat.lt_succ_self _) z.symm)) fun m => Nat.lt_irrefl _ (Nat.lt_of_le_of_lt (Nat.le_of_eq (List.mem_singleton.mp m)) hlS)
        have hval : ∀ (i : Nat) (v : Value), items[i]? = some v → ∃ p, ks[i]? = some p ∧ v = .ref p.1 := fun i v hv => by
          have q : items.toList[i]? = some v := by rw [Array.getElem?_toList]; exact hv
          rw [hit, List.getElem?_map] at q
          cases hq : ks[i]? with
          | none => rw [hq] at q; cases q
          | some p => rw [hq] at q; exact ⟨p, rfl, (Option.some.inj q).symm⟩
        have off : ∀ b, s.heap.objs.size ≤ b → s.heap.get? b = none := fun b hb => by
          cases q : s.heap.get? b with
          | none => rfl
          | some o => exact absurd (Nat.lt_of_lt_of_le (Heap.lt_size q) hb) (Nat.lt_irrefl b)
        refine set_update_tups ((Walks.tuple hh3 _ l hneI items).toS) s.heap.objs.size hSf ks hn hfew hval s.heap hk (off _ (Nat.le_refl _)) (fun b hb => off b (by rw [List.mem_singleton.mp hb, Heap.size_push]; omega)) hu (items.size - 0) 0 _ (by omega) (Nat.zero_le _) ⟨⟨_, Heap.get?_push_size _ rfl, rfl, rfl⟩, ⟨_, Heap.get?_push_of_some _ hol', rfl, nl, rfl⟩⟩ (fun b o e => Heap.get?_push_of_some _ (Heap.get?_push_of_some _ e)) ?e1 ?e2
        case e1 => exact ⟨[], #[], 0, _, setTR_fresh (Heap.get?_push_of_some _ hS), Got.zero ks⟩
        case e2 =>
          intro s' L es ep t hm hS' g' hkp
          obtain ⟨h', g2, d', tk', os'⟩ := s'
          obtain ⟨rfl, rfl, rfl⟩ : g2 = s.gens ∧ d' = s.drawn ∧ os' = s.os := ⟨hm.gens, hm.drawn, hm.os⟩
          show wpAny _ _ _ _ _ _
          refine wpAny_pure ?_
          show wpAny _ _ (ret Value.none) _ _ _
          rw [hn] at g'
          exact wpAny_pure ⟨rfl, h', tk', L, es, ep, t, rfl, hS', g', hkp⟩
      · cases r₂ with
        | error e => exact hr₂
        | ok fl₂ =>
          cases fl₂ with
          | ret r =>
            obtain ⟨rfl, h', tk, L, es, ep, t, rfl, hS', g', hk'⟩ := hr₂
            repeat (any_goals (first | assumption | wp_step))
            exact h _ _ _ _ _ _ hS' g' hk'
          | _ => exact hr₂.elim
    | _ => exact hr.elim
end
end UX

set_option Elab.async false
set_option linter.all false
set_option maxRecDepth 100000
set_option maxHeartbeats 4000000
set_option autoImplicit false
namespace UX
open PySem PySem.Spec PyProof.Rows L2
open EL (Ex RB BOk Bn TK)
/-! ### rows of ints, sorted -/
def B0 : Int := 1099511627776
def intsL : List U → Option (List Int)
  | [] => some []
  | .int i :: r => (intsL r).map (i :: ·)
  | _ => none
def intsU : U → Option (List Int)
  | .tup us => intsL us
  | _ => none
def rowsU : List U → Option (List (List Int))
  | [] => some []
  | u :: r => match intsU u, rowsU r with
    | some ns, some L => some (ns :: L)
    | _, _ => none
def tupI (ns : List Int) : U := .tup (ns.map .int)
def rowLen (L : List (List Int)) : Nat := match L with
  | [] => 1
  | ns :: _ => ns.length
def RowsOk (d : Nat) (L : List (List Int)) : Prop := 1 ≤ d ∧ L.length < 64 ∧ ∀ ns ∈ L, ns.length = d ∧ TS.Bd B0 ns
instance (d : Nat) (L : List (List Int)) : Decidable (RowsOk d L) := by unfold RowsOk TS.Bd; infer_instance
def leC (a b : List Int) : Bool := decide (TS.code B0 a ≤ TS.code B0 b)
def ddp : List (List Int) → List (List Int)
  | [] => []
  | x :: r => if x ∈ ddp r then ddp r else x :: ddp r
def sortI (L : List (List Int)) : List (List Int) := L.mergeSort leC
def sortTU : U → Option U
  | .lst us => match rowsU us with
    | some L => if RowsOk (rowLen L) L then some (.lst ((sortI L).map tupI)) else none
    | none => none
  | _ => none
def sortSetU : U → Option U
  | .tup us => match rowsU us with
    | some L => if RowsOk (rowLen L) L then some (.lst ((sortI (ddp L)).map tupI)) else none
    | none => none
  | _ => none
theorem mem_ddp {x : List Int} : ∀ {L : List (List Int)}, x ∈ ddp L ↔ x ∈ L
  | [] => Iff.rfl
  | y :: r => by
    rw [ddp]
    split
    · rename_i h
      rw [mem_ddp, List.mem_cons]
      exact ⟨.inr, fun z => z.elim (fun e => e ▸ mem_ddp.mp h) id⟩
    · rw [List.mem_cons, List.mem_cons, mem_ddp]
theorem nodup_ddp : ∀ L : List (List Int), (ddp L).Nodup
  | [] => List.nodup_nil
  | y :: r => by
    rw [ddp]
    split
    · exact nodup_ddp r
    · rename_i h
      exact List.nodup_cons.mpr ⟨h, nodup_ddp r⟩
theorem nodup_perm {α : Type} [DecidableEq α] : ∀ {l l' : List α}, l.Nodup → l'.Nodup → (∀ x, x ∈ l ↔ x ∈ l') → l.Perm l'
  | [], l', _, _, h => by
    cases l' with
    | nil => exact .nil
    | cons y r => exact absurd ((h y).mpr List.mem_cons_self) (fun z => nomatch z)
  | x :: r, l', n, n', h => by
    have hx : x ∈ l' := (h x).mp List.mem_cons_self
    have hp : l'.Perm (x :: l'.erase x) := List.perm_cons_erase hx
    have n1 : (x :: l'.erase x).Nodup := hp.nodup n'
    refine ((nodup_perm (List.nodup_cons.mp n).2 (List.nodup_cons.mp n1).2 fun y => ?_).cons x).trans hp.symm
    have h1 := (List.nodup_cons.mp n).1
    have h2 := (List.nodup_cons.mp n1).1
    constructor
    · intro m
      have : y ∈ x :: l'.erase x := hp.mem_iff.mp ((h y).mp (List.mem_cons_of_mem _ m))
      rcases List.mem_cons.mp this with e | e
      · exact absurd (e ▸ m) h1
      · exact e
    · intro m
      have : y ∈ x :: r := (h y).mpr (hp.mem_iff.mpr (List.mem_cons_of_mem _ m))
      rcases List.mem_cons.mp this with e | e
      · exact absurd (e ▸ m) h2
      · exact e
theorem code_inj : ∀ {a b : List Int}, a.length = b.length → TS.Bd B0 a → TS.Bd B0 b → TS.code B0 a = TS.code B0 b → a = b
  | [], [], _, _, _, _ => rfl
  | x :: a, y :: b, hl, ha, hb, e => by
    have hl' : a.length = b.length := by simpa using hl
    rcases Int.lt_trichotomy x y with z | z | z
    · have := TS.code_lt hl' ha.tail hb.tail z; omega
    · subst z
      have : TS.code B0 a = TS.code B0 b := by
        have h1 := (TS.code_same (B := B0) (d := x) hl')
        have h2 := (TS.code_same (B := B0) (d := x) hl'.symm)
        have n1 : ¬ TS.code B0 a < TS.code B0 b := fun z => by have := h1.mpr z; omega
        have n2 : ¬ TS.code B0 b < TS.code B0 a := fun z => by have := h2.mpr z; omega
        omega
      rw [code_inj hl' ha.tail hb.tail this]
    · have := TS.code_lt hl'.symm hb.tail ha.tail z; omega
  | [], _ :: _, hl, _, _, _ => by cases hl
  | _ :: _, [], hl, _, _, _ => by cases hl
theorem sortI_pw (L : List (List Int)) : (sortI L).Pairwise fun a b => leC a b = true := List.pairwise_mergeSort (fun a b c h1 h2 => by unfold leC at *; simp only [decide_eq_true_eq] at *; omega) (fun a b => by unfold leC; simp only [Bool.or_eq_true, decide_eq_true_eq]; omega) L
theorem sortI_perm (L : List (List Int)) : (sortI L).Perm L := List.mergeSort_perm L leC
/-- only one order of such rows -/
theorem sort_one {d : Nat} {L L' : List (List Int)} (ok : ∀ ns ∈ L, ns.length = d ∧ TS.Bd B0 ns) (p : L'.Perm L) (s : L'.Pairwise fun a b => TS.code B0 a ≤ TS.code B0 b) : L' = sortI L := by
  refine List.Perm.eq_of_pairwise (le := fun a b => leC a b = true) (fun a b ha hb h1 h2 => ?_) (s.imp fun h => by unfold leC; exact decide_eq_true h) (sortI_pw L) (p.trans (sortI_perm L).symm)
  have k1 := ok a (p.mem_iff.mp ha)
  have k2 := ok b ((sortI_perm L).mem_iff.mp hb)
  unfold leC at h1 h2
  simp only [decide_eq_true_eq] at h1 h2
  exact code_inj (k1.1.trans k2.1.symm) k1.2 k2.2 (by omega)
/-! ### where the rows stand -/
def TupH (H : Hp) (x : V) (ns : List Int) : Prop := ∃ t, x = .ref t ∧ H t = some (.tup (ns.map V.int))
def AllT (H : Hp) : List V → List (List Int) → Prop
  | [], [] => True
  | x :: xs, ns :: L => TupH H x ns ∧ AllT H xs L
  | _, _ => False
section
variable {G : Cxt} {rs : List Addr} {B : Bn} {H H' : Hp}
theorem ints_im : ∀ {us : List U} {ns : List Int} {vs : List V}, intsL us = some ns → imAll G rs B us vs H → us = ns.map .int ∧ vs = ns.map V.int
  | [], ns, vs, e, h => by cases e; exact ⟨rfl, h⟩
  | .int i :: r, ns, _, e, ⟨v, w, ev, h1, h2⟩ => by
    cases q : intsL r with
    | none => rw [intsL, q] at e; cases e
    | some ms =>
      rw [intsL, q] at e; cases e
      obtain ⟨e1, e2⟩ := ints_im q h2
      rw [ev, e1, e2, show v = _ from h1]
      exact ⟨rfl, rfl⟩
theorem im_ints : ∀ {ns : List Int}, imAll G rs B (ns.map U.int) (ns.map V.int) H
  | [] => rfl
  | n :: ns => ⟨.int n, ns.map V.int, rfl, rfl, im_ints⟩
theorem rows_im : ∀ {us : List U} {L : List (List Int)} {vs : List V}, rowsU us = some L → imAll G rs B us vs H → us = L.map tupI ∧ AllT H vs L
  | [], L, vs, e, h => by cases e; cases (show vs = [] from h); exact ⟨rfl, trivial⟩
  | u :: r, L, _, e, ⟨v, w, ev, h1, h2⟩ => by
    cases q : rowsU r with
    | none => rw [rowsU, q] at e; split at e <;> simp_all
    | some M =>
      cases q2 : intsU u with
      | none => rw [rowsU, q, q2] at e; cases e
      | some ns =>
        rw [rowsU, q, q2] at e; cases e
        obtain ⟨e1, e2⟩ := rows_im q h2
        cases u with
        | tup us =>
          obtain ⟨a, xs, rfl, ha, hx⟩ := h1
          obtain ⟨e3, e4⟩ := ints_im q2 hx
          subst e4
          rw [ev, e1, e3]
          exact ⟨rfl, ⟨a, rfl, ha⟩, e2⟩
        | _ => cases q2
theorem allT_im : ∀ {vs : List V} {L : List (List Int)}, AllT H vs L → imAll G rs B (L.map tupI) vs H
  | [], [], _ => rfl
  | x :: xs, ns :: L, ⟨⟨t, e, h⟩, r⟩ => ⟨x, xs, rfl, ⟨t, _, e, h, im_ints⟩, allT_im r⟩
theorem allT_mem : ∀ {vs : List V} {L : List (List Int)} {x : V}, AllT H vs L → x ∈ vs → ∃ ns ∈ L, TupH H x ns
  | y :: xs, ns :: L, x, ⟨h, r⟩, m => by
    rcases List.mem_cons.mp m with e | e
    · exact ⟨ns, List.mem_cons_self, e ▸ h⟩
    · obtain ⟨ms, h1, h2⟩ := allT_mem r e
      exact ⟨ms, List.mem_cons_of_mem _ h1, h2⟩
theorem allT_len : ∀ {vs : List V} {L : List (List Int)}, AllT H vs L → vs.length = L.length
  | [], [], _ => rfl
  | _ :: _, _ :: _, h => by rw [List.length_cons, List.length_cons, allT_len h.2]
theorem allT_perm {ys xs : List V} (p : ys.Perm xs) : ∀ {L : List (List Int)}, AllT H xs L → ∃ L', L'.Perm L ∧ AllT H ys L' := by
  induction p with
  | nil => intro L h; exact ⟨L, .refl _, h⟩
  | cons x _ ih =>
    intro L h
    cases L with
    | nil => exact h.elim
    | cons ns L => obtain ⟨L', p, q⟩ := ih h.2; exact ⟨ns :: L', p.cons _, h.1, q⟩
  | swap x y l =>
    intro L h
    match L, h with
    | a :: b :: L, ⟨h1, h2, h3⟩ => exact ⟨b :: a :: L, .swap _ _ _, h2, h1, h3⟩
  | trans _ _ ih1 ih2 =>
    intro L h
    obtain ⟨L1, p1, q1⟩ := ih2 h
    obtain ⟨L2, p2, q2⟩ := ih1 q1
    exact ⟨L2, p2.trans p1, q2⟩
theorem allT_pw {K : PySem.W.Frag} : ∀ {ys : List V} {L : List (List Int)}, AllT H ys L → ys.Pairwise (fun x y => ∀ n m, TupI K H x n → TupI K H y m → TS.code B0 n ≤ TS.code B0 m) → L.Pairwise fun a b => TS.code B0 a ≤ TS.code B0 b
  | [], [], _, _ => .nil
  | y :: ys, ns :: L, ⟨⟨t, e, h⟩, r⟩, p => by
    obtain ⟨p1, p2⟩ := List.pairwise_cons.mp p
    refine List.pairwise_cons.mpr ⟨fun ms m => ?_, allT_pw r p2⟩
    have key : ∀ {ys : List V} {L : List (List Int)}, AllT H ys L → ms ∈ L → ∃ z ∈ ys, TupH H z ms := by
      intro ys
      induction ys with
      | nil => intro L h m; cases L with
        | nil => cases m
        | cons _ _ => exact h.elim
      | cons z zs ih =>
        intro L h m
        cases L with
        | nil => cases m
        | cons _ _ =>
          rcases List.mem_cons.mp m with e | e
          · exact ⟨z, List.mem_cons_self, e ▸ h.1⟩
          · obtain ⟨z', m', q⟩ := ih h.2 e; exact ⟨z', List.mem_cons_of_mem _ m', q⟩
    obtain ⟨z, mz, t', e', h'⟩ := key r m
    exact p1 z mz ns ms ⟨t, e, EL.sqT_of h⟩ ⟨t', e', EL.sqT_of h'⟩
theorem tupI_one {K : PySem.W.Frag} {x : V} {ns ms : List Int} (h : TupH H x ns) : TupI K H x ns := by
  obtain ⟨t, e, q⟩ := h
  exact ⟨t, e, EL.sqT_of q⟩
end
/-! ### the calls -/
def rSortAny (K : PySem.W.Frag) : List V → Hp → VK → Prop := fun vs H Q => ∃ d, 1 ≤ d ∧ rSortU K d B0 vs H Q
theorem cr_sortAny {X : Cx} (K : PySem.W.Frag) (hK : X.K = K := by rfl) : CallR X (.builtin "sorted") (rSortAny K) := fun pins s σ H xs us Q I r ⟨d, hd, h⟩ => by
  subst hK
  exact cr_sortT hd pins s σ H xs us Q I r h
def rSetOfTup (K : PySem.W.Frag) (P : Program) (w : World) : List V → Hp → VK → Prop := fun xs H Q => ∃ (l : Addr) (ks : List (Addr × List Int)), xs = [V.ref l] ∧ SqT K H l (ks.map fun p => V.ref p.1) ∧ (∀ p ∈ ks, SqT K H p.1 (p.2.map V.int)) ∧ ks.length < 64 ∧ ∀ a L, H a = none → (∀ p ∈ L, p ∈ ks) → (∀ p ∈ ks, p.2 ∈ L.map (·.2)) → Q (.ref a) (upd H a (SetTO P w a L))
theorem cr_setOfTup {X : Cx} (K : PySem.W.Frag) (P : Program) (w : World) (hc : X.calm = true) (hu : X.A.units + 66 < cLine) (hK : X.K = K := by rfl) (hP : X.prog = P := by rfl) (hw : X.w = w := by rfl) : CallR X (.type "set") (rSetOfTup K P w) := by
  subst hK hP hw
  intro pins s σ H xs us Q I r ⟨l, ks, e, hl, hk, hf, q⟩
  subst e
  rw [Vals.ref1 r]
  obtain ⟨its, rv, pl, hz⟩ := I.tuple hl
  refine call_set_ofTup ks (I.ok.hd hc) (show s.heap.IsTuple l its.toArray from pl) (by simpa using refs_of_vals rv) (fun p hp => I.isT (hk p hp)) hf (by omega) fun h' tk L es ep t R g k => ?_
  exact ⟨.ref s.heap.objs.size, upd H s.heap.objs.size (SetTO X.prog X.w s.heap.objs.size L), I.laid (t' := tk) k (Nat.le_refl _) (setTO_new R.t0), rfl, q _ L (I.hok.fresh (Nat.le_refl _)) (fun p hp => List.mem_of_mem_take (g.sub p hp)) fun p hp => g.all p (by rw [List.take_length]; exact hp)⟩
theorem cr_sortedK {X : Cx} (K : PySem.W.Frag) (P : Program) (w : World) (hc : X.calm = true) (hK : X.K = K := by rfl) (hP : X.prog = P := by rfl) (hw : X.w = w := by rfl) : CallR X (.builtin "sorted") (rSortedT K P w) := by
  subst hK hP hw
  exact cr_sortedT hc
section
variable {F : Fr}
theorem ok_sort : Op1Ok F (rSortAny F.G.K) sortTU := fun os as H a c x ok ha e QQ k => by
  cases a with
  | lst us => ?_
  | _ => cases e
  simp only [sortTU] at e
  cases q : rowsU us with
  | none => rw [q] at e; cases e
  | some L =>
    rw [q] at e
    simp only at e
    split at e
    case isFalse => cases e
    rename_i hok
    cases e
    obtain ⟨hd, h64, hall⟩ := hok
    obtain ⟨p, xs, rfl, _, hp, hx⟩ := ha
    obtain ⟨_, hT⟩ := rows_im q hx
    refine ⟨rowLen L, hd, p, xs, rfl, EL.sqL_of hp, by rw [allT_len hT]; exact h64, fun z m => ?_, fun ys l py pw hl => ?_⟩
    · obtain ⟨ns, hm, t, e1, e2⟩ := allT_mem hT m
      exact ⟨ns, ⟨t, e1, EL.sqT_of e2⟩, hall ns hm⟩
    · obtain ⟨L', pL, hT'⟩ := allT_perm py hT
      have e1 : L' = sortI L := sort_one hall pL (allT_pw (K := F.G.K) hT' pw)
      subst e1
      exact k _ _ (Ex.new hl) ⟨l, ys, rfl, fun z => ok l z hl, upd_same, imAll_st (RB.of_ex (Ex.new hl)) _ _ (allT_im hT')⟩
def prs (xs : List V) (L : List (List Int)) : List (Addr × List Int) := match xs, L with
  | .ref t :: xs, ns :: L => (t, ns) :: prs xs L
  | _, _ => []
theorem prs_ok {K : PySem.W.Frag} {H : Hp} : ∀ {xs : List V} {L : List (List Int)}, AllT H xs L → xs = (prs xs L).map (fun p => V.ref p.1) ∧ (∀ p ∈ prs xs L, H p.1 = some (.tup (p.2.map V.int))) ∧ (prs xs L).map (·.2) = L
  | [], [], _ => ⟨rfl, (fun p m => absurd m (by simp [prs])), rfl⟩
  | x :: xs, ns :: L, ⟨⟨t, e, h⟩, r⟩ => by
    subst e
    obtain ⟨h1, h2, h3⟩ := prs_ok (K := K) r
    refine ⟨by rw [prs, List.map_cons, ← h1], fun p m => ?_, by rw [prs, List.map_cons, h3]⟩
    rcases List.mem_cons.mp m with z | z
    · rw [z]; exact h
    · exact h2 p z
theorem ok_sortSet {P : Program} {w : World} : Op1Ok F (fun vs H Q => rSetOfTup F.G.K P w vs H fun v H1 => rSortedT F.G.K P w [v] H1 Q) sortSetU := fun os as H a c x ok ha e QQ k => by
  cases a with
  | tup us => ?_
  | _ => cases e
  simp only [sortSetU] at e
  cases q : rowsU us with
  | none => rw [q] at e; cases e
  | some L =>
    rw [q] at e
    simp only at e
    split at e
    case isFalse => cases e
    rename_i hok
    cases e
    obtain ⟨hd, h64, hall⟩ := hok
    obtain ⟨p, xs, rfl, hp, hx⟩ := ha
    obtain ⟨_, hT⟩ := rows_im q hx
    obtain ⟨e1, e2, e3⟩ := prs_ok (K := F.G.K) hT
    refine ⟨p, prs xs L, rfl, EL.sqT_of (by rw [← e1]; exact hp), fun z m => EL.sqT_of (e2 z m), by rw [← List.length_map (f := (·.2)), e3]; exact h64, fun b M hb h1 h2 => ?_⟩
    have exb : Ex H (upd H b (SetTO P w b M)) := Ex.new hb
    have rowM : ∀ z ∈ M, z.2.length = rowLen L ∧ TS.Bd B0 z.2 := fun z m => hall _ (by rw [← e3]; exact List.mem_map_of_mem (h1 z m))
    refine ⟨b, M, rowLen L, B0, rfl, upd_same, fun z m => EL.sqT_of (exb _ _ (e2 z (h1 z m))), hd, rowM, fun M' l pM nd _ pw hl => ?_⟩
    have e4 : M'.map (·.2) = sortI (ddp L) := by
      refine sort_one (d := rowLen L) (fun ns m => hall ns (mem_ddp.mp m)) (nodup_perm nd (nodup_ddp L) fun y => ?_) (List.pairwise_map.mpr pw)
      rw [mem_ddp, ← e3]
      constructor
      · intro m
        obtain ⟨z, mz, rfl⟩ := List.mem_map.mp m
        exact List.mem_map_of_mem (h1 z (pM.mem_iff.mp mz))
      · intro m
        obtain ⟨z, mz, rfl⟩ := List.mem_map.mp m
        exact (pM.map (·.2)).mem_iff.mpr (h2 z mz)
    have exl := exb.trans (Ex.new (o := .lst (M'.map fun q => V.ref q.1)) hl)
    refine k _ _ exl ⟨l, _, rfl, fun z => ?_, upd_same, ?_⟩
    · have h0 : H l ≠ none := ok l z
      cases q0 : H l with
      | none => exact h0 q0
      | some o => rw [exb _ _ q0] at hl; cases hl
    · rw [← e4]
      have aT : ∀ N : List (Addr × List Int), (∀ z ∈ N, z ∈ prs xs L) → AllT (upd (upd H b (SetTO P w b M)) l (.lst (M'.map fun q => V.ref q.1))) (N.map fun q => V.ref q.1) (N.map (·.2)) := by
        intro N
        induction N with
        | nil => intro _; trivial
        | cons z N ih => intro h; exact ⟨⟨z.1, rfl, exl _ _ (e2 z (h z List.mem_cons_self))⟩, ih fun y m => h y (List.mem_cons_of_mem _ m)⟩
      exact allT_im (aT M' fun z m => h1 z (pM.mem_iff.mp m))
theorem ev_sortSet {P : Program} {w : World} {δ : Dl} {te : TE} {wa : M U} (h : EvR F te δ wa) : EvW F (tCB (rSortedT F.G.K P w) (tCons (tCB (rSetOfTup F.G.K P w) (tCons te tNil)) tNil)) δ (op1 sortSetU wa) :=
  show EvW F (tCB (fun vs H Q => rSetOfTup F.G.K P w vs H fun v H1 => rSortedT F.G.K P w [v] H1 Q) (tCons te tNil)) δ (op1 sortSetU wa) from ev_cb1 ok_sortSet h
end
end UX

set_option Elab.async false
set_option linter.all false
set_option maxRecDepth 100000
set_option maxHeartbeats 4000000
set_option autoImplicit false
namespace UX
open PySem PySem.Spec PyProof.Rows L2
open EL (Ex RB BOk Bn TK)
/-! ### the head, with tables and their values -/
abbrev Vls : Type := (PySem.W.Frag → Addr) × List (Str × He.Dv)
abbrev AlU : Type := He.AlT × Bool
def obsU (fa : List He.Fa) (fn : List He.DefD) (ts : List He.Tab) (vs : List Vls) (K : PySem.W.Frag) : AlU := (He.obsT fa fn ts K, vs.all fun q => He.valsB K (q.1 K) q.2)
def valU (fn : List He.DefD) (ts : List He.Tab) (w : World) : AlU := (He.valT fn ts w, true)
def obsUG (n : Nat) (fa : List He.Fa) (fn : List He.DefD) (ts : List He.Tab) (vs : List Vls) (g : Addr → Option Obj) : AlU := obsU fa fn ts vs (He.frG g (He.asD g n))
def SaysU (fa : List He.Fa) (fn : List He.DefD) (ts : List He.Tab) (vs : List Vls) (w : World) (K : PySem.W.Frag) : Prop := obsU fa fn ts vs K = valU fn ts w
def hookU (n : Nat) (fa : List He.Fa) (fn : List He.DefD) (ts : List He.Tab) (vs : List Vls) : PySem.W.Hook where
  α := AlU
  obs := fun s => obsUG n fa fn ts vs s.heap.get?
  val := fun w => valU fn ts w
  says := fun w h => ∃ K : PySem.W.Frag, K.In h ∧ SaysU fa fn ts vs w K
  of := fun _ _ e => ⟨_, He.frG_in, e⟩
  keeps := fun _ _ _ ⟨K, hK, c⟩ k => ⟨K, PySem.W.Frag.In.keeps hK k, c⟩
theorem obsUG_eq {n : Nat} {fa : List He.Fa} {fn : List He.DefD} {ts : List He.Tab} {vs : List Vls} {g : Addr → Option Obj} {s : Shared} (h : ∀ a, g a = s.heap.get? a) : obsUG n fa fn ts vs g = (hookU n fa fn ts vs).obs s := by
  obtain rfl : g = s.heap.get? := funext h
  rfl
section
variable {fa : List He.Fa} {fn : List He.DefD} {ts : List He.Tab} {vs : List Vls} {w : World} {K : PySem.W.Frag}
theorem SaysU.t (c : SaysU fa fn ts vs w K) : He.SaysT fa fn ts w K := congrArg (fun z : AlU => z.1) c
theorem SaysU.d (c : SaysU fa fn ts vs w K) : He.SaysD fa fn K := c.t.d
theorem SaysU.val (c : SaysU fa fn ts vs w K) (i : Nat) {q : Vls} (h : vs[i]? = some q) : He.valsB K (q.1 K) q.2 = true :=
  List.all_eq_true.mp (show (vs.all fun q => He.valsB K (q.1 K) q.2) = true from congrArg (fun z : AlU => z.2) c) q (List.mem_of_getElem? h)
theorem SaysU.keys (c : SaysU fa fn ts vs w K) (i : Nat) {t : He.Tab} (h : ts[i]? = some t) : He.dicW K (t.1 K) = some (He.keysIn w.params t.2) := by
  have e : ts.map (fun t => He.dicW K (t.1 K)) = ts.map fun t => some (He.keysIn w.params t.2) := congrArg (fun z : He.AlT => z.2) c.t
  have e2 : (ts.map fun t => He.dicW K (t.1 K))[i]? = (ts.map fun t => some (He.keysIn w.params t.2))[i]? := by rw [e]
  rw [List.getElem?_map, List.getElem?_map, h] at e2
  exact Option.some.inj e2
end
/-- keys that are not there -/
theorem keys_no {P : Params} {z : Str} : ∀ {l : List DictEntry} {ks : List Str}, l.map He.keyOf = He.keysIn P ks → z ∉ ks → l.find? (·.key.isStr z) = none ∧ l.any (·.refKey) = false
  | [], _, _, _ => ⟨rfl, rfl⟩
  | e :: r, [], h, _ => by cases h
  | e :: r, k :: ks, h, n => by
    have h1 : He.keyOf e :: r.map He.keyOf = some (k, PyData.keyHash P k) :: He.keysIn P ks := h
    injection h1 with h2 h3
    obtain ⟨i1, i2⟩ := keys_no h3 fun m => n (List.mem_cons_of_mem _ m)
    unfold He.keyOf at h2
    split at h2
    · rename_i x t q
      have h4 := Option.some.inj h2
      have hx : x = k := congrArg Prod.fst h4
      have nz : ¬ x = z := fun e => n (by rw [← hx, e]; exact List.mem_cons_self)
      constructor
      · rw [List.find?_cons, show e.key.isStr z = false by rw [q]; simp [Value.isStr, nz]]
        exact i1
      · rw [List.any_cons, show e.refKey = false by simp [DictEntry.refKey, q], Bool.false_or]
        exact i2
    · cases h2
theorem nsIn_no {K : PySem.W.Frag} {w : World} {a : Addr} {ks : List Str} {z : Str} (h : He.dicW K a = some (He.keysIn w.params ks)) (n : z ∉ ks) : PySem.W.nsIn K a z = some none := by
  obtain ⟨es, m, D⟩ := He.dicW_ok h
  unfold He.dicW at h
  rw [D.at_] at h
  simp only at h
  split at h
  · obtain ⟨h1, h2⟩ := keys_no (Option.some.inj h) n
    unfold PySem.W.nsIn
    rw [D.at_]
    simp only [h1, h2]
    rfl
  · cases h
def dvU : U → He.Dv
  | .top x => .glo x
  | .str s => .str s
  | .int i => .int i
  | _ => .non
theorem tabF {K : PySem.W.Frag} {w : World} {x : Str} {tab : List (Str × U)} (h1 : He.dicW K (He.ga K x) = some (He.keysIn w.params (tab.map (·.1)))) (h2 : He.valsB K (He.ga K x) (tab.map fun p => (p.1, dvU p.2)) = true) (h3 : ∀ p ∈ tab, (vTab (He.ga K) p.2).isSome = true) : TabF K (He.ga K) w (He.ga K x) tab := by
  refine ⟨He.dicW_ok h1, fun z u e => ?_, fun z e => nsIn_no h1 fun m => ?_⟩
  · have m := lookup_mem e
    obtain ⟨u0, q1, q2⟩ := He.valsB_ok h2 (List.mem_map_of_mem (f := fun p : Str × U => (p.1, dvU p.2)) m)
    have hs := h3 _ m
    cases u with
    | top y => exact ⟨u0, _, q1, rfl, q2⟩
    | str y => exact ⟨u0, _, q1, rfl, q2⟩
    | int y => exact ⟨u0, _, q1, rfl, q2⟩
    | _ => cases hs
  · obtain ⟨p, mp, rfl⟩ := List.mem_map.mp m
    have key : ∀ {l : List (Str × U)} {p : Str × U}, p ∈ l → l.lookup p.1 ≠ none := by
      intro l
      induction l with
      | nil => intro p m; cases m
      | cons q l ih =>
        intro p m
        rw [List.lookup_cons]
        split
        · exact fun z => nomatch z
        · rename_i hne
          rcases List.mem_cons.mp m with e | e
          · rw [e] at hne; simp at hne
          · exact ih e
    exact key mp e
theorem allN {α : Type} {P : α → Prop} : ∀ c ∈ ([] : List α), P c := fun _ m => nomatch m
theorem allC {α : Type} {P : α → Prop} {a : α} {l : List α} (h : P a) (k : ∀ c ∈ l, P c) : ∀ c ∈ a :: l, P c := fun c m => (List.mem_cons.mp m).elim (fun e => e ▸ h) (k c)
/-! ### the law's promise -/
theorem sp_law {K : PySem.W.Frag} {at_ : Str → Addr} {f : U → M U} (hf : ∀ ns : List Int, ns.length ≤ 63 → ∃ st', f (.frl (ns.map .int)) [] = some (.ok (.bl true), st')) {H : Hp} {a : Addr} {ns : List Int} (hl : ns.length ≤ 63) (hS : SqL K H a (ns.map V.int)) :
    spM ⟨K, at_⟩ (L1 f) [.ref a] H (fun v _ => v = .bl true) fun _ _ _ => False := by
  obtain ⟨st', e⟩ := hf ns hl
  exact ⟨fun _ => False, [], [], [.frl (ns.map .int)], .bl true, st', fun a b => (by rcases b with b | b | b; exact b.elim; cases b; cases b), List.nodup_nil, (fun _ _ z => z), trivial, ⟨.ref a, [], rfl, ⟨a, ns.map V.int, rfl, FrL.of (fun b => by rcases b with b | b | b; exact b; cases b; cases b) hS, im_ints⟩, rfl⟩, e, fun as' v H' r => r.im⟩
end UX

set_option Elab.async false
set_option linter.all false
set_option maxRecDepth 100000
set_option maxHeartbeats 4000000
set_option autoImplicit false
namespace UX
open PySem PySem.Spec
/-! ### what comes of a piece: plain rules -/
def Wp {α : Type} (w : M α) (st : Sto) (Q : α → Sto → Prop) : Prop := ∃ a st', w st = some (.ok a, st') ∧ Q a st'
section
variable {α β S S' L : Type} {w : M α} {st : Sto} {Q Q' : α → Sto → Prop}
theorem Wp.mono (h : Wp w st Q) (k : ∀ a s, Q a s → Q' a s) : Wp w st Q' := by
  obtain ⟨a, s, e, q⟩ := h
  exact ⟨a, s, e, k a s q⟩
theorem Wp.ret {a : α} (h : Q a st) : Wp (.ret a) st Q := ⟨a, st, rfl, h⟩
theorem Wp.bind {f : β → M α} {v : M β} (h : Wp v st fun a s => Wp (f a) s Q) : Wp (.bind v f) st Q := by
  obtain ⟨a, s, e, b, s', e', q⟩ := h
  exact ⟨b, s', by rw [M.bind_of e]; exact e', q⟩
theorem Wp.o {x : Option α} {a : α} (e : x = some a) (h : Q a st) : Wp (.o x) st Q := by subst e; exact Wp.ret h
theorem Wp.eq {a : α} {s : Sto} (e : w st = some (.ok a, s)) (h : Q a s) : Wp w st Q := ⟨a, s, e, h⟩
end
section
variable {S S' L : Type} {st : Sto} {Q : U → Sto → Prop} {QT : Bool → Sto → Prop} {QA : List U → Sto → Prop}
theorem Wp.op1 {f : U → Option U} {wa : M U} (h : Wp wa st fun a s => ∃ c, f a = some c ∧ Q c s) : Wp (op1 f wa) st Q := .bind (h.mono fun _ _ ⟨_, e, q⟩ => .o e q)
theorem Wp.op2 {f : U → U → Option U} {wa wb : M U} (h : Wp wa st fun a s => Wp wb s fun b s => ∃ c, f a b = some c ∧ Q c s) : Wp (op2 f wa wb) st Q := .bind (h.mono fun _ _ h => .bind (h.mono fun _ _ ⟨_, e, q⟩ => .o e q))
theorem Wp.test {wa : M U} (h : Wp wa st fun a s => ∃ b, a = .bl b ∧ QT b s) : Wp (testW wa) st QT := .bind (h.mono fun _ _ ⟨_, e, q⟩ => .o (by rw [e]; rfl) q)
theorem Wp.not {w : M Bool} (h : Wp w st fun b s => QT (!b) s) : Wp (notT w) st QT := .bind (h.mono fun _ _ q => .ret q)
theorem Wp.and {w w' : M Bool} (h : Wp w st fun b s => if b = true then Wp w' s QT else QT false s) : Wp (andT w w') st QT := .bind (h.mono fun b _ q => by
  cases b
  · exact .ret q
  · exact q)
theorem Wp.or {w w' : M Bool} (h : Wp w st fun b s => if b = true then QT true s else Wp w' s QT) : Wp (orT w w') st QT := .bind (h.mono fun b _ q => by
  cases b
  · exact q
  · exact .ret q)
theorem Wp.andW {w w' : M U} (h : Wp (testW w) st fun b s => if b = true then Wp w' s Q else Q (.bl false) s) : Wp (andW w w') st Q := .bind (h.mono fun b _ q => by
  cases b
  · exact .ret q
  · exact q)
theorem Wp.orW {w w' : M U} (h : Wp (testW w) st fun b s => if b = true then Q (.bl true) s else Wp w' s Q) : Wp (orW w w') st Q := .bind (h.mono fun b _ q => by
  cases b
  · exact q
  · exact .ret q)
theorem Wp.ite {α : Type} {Q : α → Sto → Prop} {c : M Bool} {w w' : M α} (h : Wp c st fun b s => if b = true then Wp w s Q else Wp w' s Q) : Wp (iteW c w w') st Q := .bind (h.mono fun b _ q => by
  cases b
  · exact q
  · exact q)
theorem Wp.consA {wa : M U} {wr : M (List U)} (h : Wp wa st fun a s => Wp wr s fun r s => QA (a :: r) s) : Wp (consA wa wr) st QA := .bind (h.mono fun _ _ h => .bind (h.mono fun _ _ q => .ret q))
theorem Wp.nilA (h : QA [] st) : Wp nilA st QA := .ret h
theorem Wp.tup {wa : M (List U)} (h : Wp wa st fun us s => us.length ≤ sizeLine ∧ Q (.tup us) s) : Wp (tupW wa) st Q := .bind (h.mono fun _ _ ⟨l, q⟩ => .o (if_pos l) q)
theorem Wp.lst {wa : M (List U)} (h : Wp wa st fun us s => us.length ≤ sizeLine ∧ Q (.lst us) s) : Wp (lstW wa) st Q := .bind (h.mono fun _ _ ⟨l, q⟩ => .o (if_pos l) q)
theorem Wp.call {f : List U → M U} {wa : M (List U)} (h : Wp wa st fun us s => Wp (f us) s Q) : Wp (callM f wa) st Q := .bind h
theorem Wp.seq {Q : Out S' L → Sto → Prop} {w : M (Out S L)} {k : S → M (Out S' L)} (h : Wp w st fun o s => match o with
    | .nx a => Wp (k a) s Q
    | .rt u => Q (.rt u) s
    | .bk l => Q (.bk l) s
    | .ct l => Q (.ct l) s) : Wp (seqO w k) st Q := .bind (h.mono fun o _ q => by
  cases o with
  | nx a => exact q
  | _ => exact .ret q)
theorem Wp.rt {Q : Out S L → Sto → Prop} {w : M U} (h : Wp w st fun u s => Q (.rt u) s) : Wp (rtO w) st Q := .bind (h.mono fun _ _ q => .ret q)
theorem Wp.nx {Q : Out S L → Sto → Prop} {s : S} (h : Q (.nx s) st) : Wp (nxO s) st Q := .ret h
theorem Wp.fn {w : M (Out Unit Unit)} (h : Wp w st fun o s => match o with
    | .rt u => Q u s
    | .nx _ => Q .non s
    | _ => False) : Wp (fnM w) st Q := .bind (h.mono fun o _ q => by
  cases o with
  | rt u => exact .ret q
  | nx _ => exact .ret q
  | bk _ => exact q.elim
  | ct _ => exact q.elim)
/-- a loop, by what is kept -/
theorem Wp.for {f : U → S → M (Out S S)} {Q : Out S L → Sto → Prop} {us : List U} (I : Nat → S → Sto → Prop) {s0 : S} (h0 : I 0 s0 st)
    (hs : ∀ (i : Nat) (u : U) (s : S) (st : Sto), us[i]? = some u → I i s st → Wp (f u s) st fun o st' => match o with
      | .nx s' => I (i + 1) s' st'
      | .ct s' => I (i + 1) s' st'
      | .bk s' => Q (.nx s') st'
      | .rt u => Q (.rt u) st')
    (hd : ∀ s st, I us.length s st → Q (.nx s) st) : Wp (forO f us s0) st Q := by
  have key : ∀ (vs : List U) (k : Nat) (s : S) (st : Sto), us.drop k = vs → k ≤ us.length → I k s st → Wp (forO (L := L) f vs s) st Q := by
    intro vs
    induction vs with
    | nil =>
      intro k s st e hk hi
      have : k = us.length := by
        have := congrArg List.length e
        rw [List.length_drop] at this
        simp at this
        omega
      subst this
      exact .ret (hd s st hi)
    | cons v vs ih =>
      intro k s st e hk hi
      have hlt : k < us.length := by
        have := congrArg List.length e
        rw [List.length_drop, List.length_cons] at this
        omega
      have ev : us[k]? = some v := by rw [← List.head?_drop, e]; rfl
      have ed : us.drop (k + 1) = vs := by rw [← List.tail_drop, e]; rfl
      refine .bind ((hs k v s st ev hi).mono fun o st' q => ?_)
      cases o with
      | nx s' => exact ih (k + 1) s' st' ed hlt q
      | ct s' => exact ih (k + 1) s' st' ed hlt q
      | bk s' => exact .ret q
      | rt u => exact .ret q
  exact key us 0 s0 st rfl (Nat.zero_le _) h0
/-- a comprehension, by what is kept of the part made -/
theorem Wp.comp {wt : U → M Bool} {we : U → M U} {us : List U} (I : Nat → List U → Sto → Prop) (h0 : I 0 [] st)
    (hs : ∀ (i : Nat) (u : U) (r : List U) (st : Sto), us[i]? = some u → I i r st → Wp (wt u) st fun b s => if b = true then Wp (we u) s fun x s => I (i + 1) (r ++ [x]) s else I (i + 1) r s)
    (hd : ∀ r st, I us.length r st → QA r st) : Wp (compM wt we us) st QA := by
  have key : ∀ (vs : List U) (k : Nat) (r : List U) (st : Sto), us.drop k = vs → k ≤ us.length → I k r st → Wp (compM wt we vs) st fun x s => QA (r ++ x) s := by
    intro vs
    induction vs with
    | nil =>
      intro k r st e hk hi
      have : k = us.length := by
        have := congrArg List.length e
        rw [List.length_drop] at this
        simp at this
        omega
      subst this
      exact .ret (by rw [List.append_nil]; exact hd r st hi)
    | cons v vs ih =>
      intro k r st e hk hi
      have hlt : k < us.length := by
        have := congrArg List.length e
        rw [List.length_drop, List.length_cons] at this
        omega
      have ev : us[k]? = some v := by rw [← List.head?_drop, e]; rfl
      have ed : us.drop (k + 1) = vs := by rw [← List.tail_drop, e]; rfl
      refine .bind ((hs k v r st ev hi).mono fun b s q => ?_)
      cases b with
      | false => exact ih (k + 1) r s ed hlt q
      | true => exact .bind (q.mono fun x s q => .bind ((ih (k + 1) (r ++ [x]) s ed hlt q).mono fun y s q => .ret (by rw [List.append_assoc] at q; exact q)))
  exact (key us 0 [] st rfl (Nat.zero_le _) h0).mono fun x s q => q
theorem Wp.lc {wl : M (List U)} {wt : U → M Bool} {we : U → M U} (h : Wp wl st fun us s => Wp (compM wt we us) s fun r s => r.length ≤ sizeLine ∧ Q (.lst r) s) : Wp (lcW wl wt we) st Q := .bind (h.mono fun _ _ h => .bind (h.mono fun _ _ ⟨l, q⟩ => .o (if_pos l) q))
/-- while, by a measure -/
theorem Wp.while {c : S → M Bool} {b : S → M (Out S S)} {Q : Out S L → Sto → Prop} (I : Nat → S → Sto → Prop)
    (hs : ∀ n s st, I n s st → Wp (c s) st fun t st => if t = true then Wp (b s) st fun o st => match o with
      | .nx s' => ∃ m < n, I m s' st
      | .ct s' => ∃ m < n, I m s' st
      | .bk s' => Q (.nx s') st
      | .rt u => Q (.rt u) st else Q (.nx s) st) : ∀ {n : Nat} {s : S} {st : Sto}, I n s st → Wp (whileO c b s) st Q := by
  have key : ∀ (n : Nat) (s : S) (st : Sto), I n s st → Wp (whileN (L := L) c b (n + 1) s) st Q := by
    intro n
    induction n using Nat.strongRecOn with
    | _ n ih =>
      intro s st hi
      have up : ∀ {m k : Nat} {s : S} {st : Sto}, m ≤ k → Wp (whileN (L := L) c b m s) st Q → Wp (whileN (L := L) c b k s) st Q := by
        intro m k s st h w
        obtain ⟨a, s', e, q⟩ := w
        refine ⟨a, s', ?_, q⟩
        induction h with
        | refl => exact e
        | step _ ih => exact whileN_succ ih
      refine .bind ((hs n s st hi).mono fun t st q => ?_)
      cases t with
      | false => exact .ret q
      | true =>
        refine .bind (Wp.mono (show Wp (b s) st _ from q) fun o st q => ?_)
        cases o with
        | nx s' => obtain ⟨m, hm, q⟩ := q; exact up (by omega) (ih m hm s' st q)
        | ct s' => obtain ⟨m, hm, q⟩ := q; exact up (by omega) (ih m hm s' st q)
        | bk s' => exact .ret q
        | rt u => exact .ret q
  intro n s st hi
  obtain ⟨a, s', e, q⟩ := key n s st hi
  exact ⟨a, s', whileO_of e, q⟩
end
end UX

set_option Elab.async false
set_option linter.all false
set_option maxRecDepth 100000
set_option maxHeartbeats 4000000
set_option autoImplicit false
namespace UX
open PySem PySem.Spec
/-! ### plain facts of the operations -/
theorem pdAll_ints : ∀ cs : List Int, pdAll (cs.map U.int) = some (cs.map PyData.int)
  | [] => rfl
  | c :: cs => by simp [pdAll, pd, pdAll_ints cs]
theorem shaped_ints (cs : List Int) : SeqAt.shaped (.list (cs.map PyData.int)) = true :=
  EL.shaped_list (n := 5) (fun d hd => by obtain ⟨w, _, rfl⟩ := List.mem_map.mp hd; rfl) (fun d hd => by obtain ⟨w, _, rfl⟩ := List.mem_map.mp hd; simp [PyData.depth]) (by decide)
theorem neU_nil (cs : List Int) : neU (.lst (cs.map .int)) (.lst []) = some (.bl (!cs.isEmpty)) := by
  have e : pd (.lst (cs.map .int)) = some (.list (cs.map PyData.int)) := by simp [pd, pdAll_ints]
  show neD _ _ = _
  unfold neD
  rw [e, show pd (.lst []) = some (.list []) from rfl]
  simp only [shaped_ints, show SeqAt.shaped (.list []) = true from by decide, and_self, if_true]
  cases cs <;> simp [PyData.eqv, PyData.eqvAll]
theorem eqU_nil (cs : List Int) : eqU (.lst (cs.map .int)) (.lst []) = some (.bl cs.isEmpty) := by
  have e : pd (.lst (cs.map .int)) = some (.list (cs.map PyData.int)) := by simp [pd, pdAll_ints]
  show eqD _ _ = _
  unfold eqD
  rw [e, show pd (.lst []) = some (.list []) from rfl]
  simp only [shaped_ints, show SeqAt.shaped (.list []) = true from by decide, and_self, if_true]
  cases cs <;> simp [PyData.eqv, PyData.eqvAll]
theorem eqU_int (i j : Int) : eqU (.int i) (.int j) = some (.bl (decide (i = j))) := by
  show eqD (.int i) (.int j) = _
  unfold eqD
  rw [show pd (.int i) = some (.int i) from rfl, show pd (.int j) = some (.int j) from rfl]
  have h : ∀ i : Int, SeqAt.shaped (.int i) = true := fun i => by simp [SeqAt.shaped, PyData.canLay0, PyData.depth]
  simp only [h, and_self, if_true]
  simp only [PyData.eqv]
  rfl
theorem fdiv_at {i j : Int} (h : j ≠ 0) (h2 : j.natAbs < 1073741824) : fdivU (.int i) (.int j) = some (.int (i.fdiv j)) := if_pos ⟨h, h2⟩
theorem mod_at {i j : Int} (h : j ≠ 0) : modU (.int i) (.int j) = some (.int (i.fmod j)) := if_pos h
theorem mul_at {i j : Int} (h : L2.CMul i j) : mulU (.int i) (.int j) = some (.int (i * j)) := if_pos h
theorem pow_at {i j : Int} (h : L2.CPow i j) : powU (.int i) (.int j) = some (.int (i ^ j.toNat)) := if_pos h
theorem eqU_str {x y : Str} {b : Bool} (hb : decide (x = y) = b) : eqU (.str x) (.str y) = some (.bl b) := by rw [← hb]; rfl
theorem neU_str {x y : Str} {b : Bool} (hb : (!decide (x = y)) = b) : neU (.str x) (.str y) = some (.bl b) := by rw [← hb]; rfl
theorem leaf_ints (cs : List Int) : (cs.map U.int).all leafU = true := by
  rw [List.all_map, List.all_eq_true]; intro c _; rfl
end UX

set_option Elab.async false
set_option linter.all false
set_option maxRecDepth 100000
set_option maxHeartbeats 4000000
set_option autoImplicit false
namespace UX
open PySem PySem.Spec
/-! ### rules for going through a piece step by step -/
def WpO {α : Type} (x : Option α) (P : α → Prop) : Prop := ∃ c, x = some c ∧ P c
def SeqK {S S' L : Type} (k : S → M (Out S' L)) (Q : Out S' L → Sto → Prop) : Out S L → Sto → Prop
  | .nx a, s => Wp (k a) s Q
  | .rt u, s => Q (.rt u) s
  | .bk l, s => Q (.bk l) s
  | .ct l, s => Q (.ct l) s
def FnK (Q : U → Sto → Prop) : Out Unit Unit → Sto → Prop
  | .rt u, s => Q u s
  | .nx _, s => Q .non s
  | _, _ => False
def ForK {S L : Type} (J : S → Sto → Prop) (Q : Out S L → Sto → Prop) : Out S S → Sto → Prop
  | .nx s, st => J s st
  | .ct s, st => J s st
  | .bk s, st => Q (.nx s) st
  | .rt u, st => Q (.rt u) st
def IfP (b : Bool) (A B : Prop) : Prop := if b = true then A else B
section
variable {α β S S' L : Type} {st : Sto} {Q : U → Sto → Prop} {QT : Bool → Sto → Prop} {QA : List U → Sto → Prop} {A B : Prop} {b : Bool}
theorem if_t (h : A) : IfP true A B := h
theorem if_f (h : B) : IfP false A B := h
theorem if_yes (e : b = true) (h : A) : IfP b A B := by subst e; exact h
theorem if_no (e : b = false) (h : B) : IfP b A B := by subst e; exact h
theorem if_dec {p : Prop} [Decidable p] (h1 : p → A) (h2 : ¬ p → B) : IfP (decide p) A B := by
  by_cases h : p
  · rw [decide_eq_true h]; exact h1 h
  · rw [decide_eq_false h]; exact h2 h
theorem if_ndec {p : Prop} [Decidable p] (h1 : ¬ p → A) (h2 : p → B) : IfP (!decide p) A B := by
  by_cases h : p
  · rw [decide_eq_true h]; exact h2 h
  · rw [decide_eq_false h]; exact h1 h
theorem if_p {p : Prop} [Decidable p] (h : p) (q : A) : IfP (decide p) A B := if_yes (decide_eq_true h) q
theorem if_n {p : Prop} [Decidable p] (h : ¬ p) (q : B) : IfP (decide p) A B := if_no (decide_eq_false h) q
theorem if_np {p : Prop} [Decidable p] (h : ¬ p) (q : A) : IfP (!decide p) A B := if_yes (by rw [decide_eq_false h]; rfl) q
theorem if_nn {p : Prop} [Decidable p] (h : p) (q : B) : IfP (!decide p) A B := if_no (by rw [decide_eq_true h]; rfl) q
theorem if_any (h1 : b = true → A) (h2 : b = false → B) : IfP b A B := by
  cases b
  · exact h2 rfl
  · exact h1 rfl
theorem wo_some {x : α} {P : α → Prop} (h : P x) : WpO (some x) P := ⟨x, rfl, h⟩
theorem wo_eq {x : Option α} {a : α} {P : α → Prop} (e : x = some a) (h : P a) : WpO x P := ⟨a, e, h⟩
theorem vs_ret {Q : α → Sto → Prop} {a : α} (h : Q a st) : Wp (.ret a) st Q := .ret h
theorem vs_eq {w : M α} {Q : α → Sto → Prop} {a : α} (e : w = .ret a) (h : Q a st) : Wp w st Q := e ▸ .ret h
theorem vs_o {x : Option α} {Q : α → Sto → Prop} (h : WpO x fun a => Q a st) : Wp (.o x) st Q := by obtain ⟨c, e, q⟩ := h; exact .o e q
theorem vs_op1 {f : U → Option U} {wa : M U} (h : Wp wa st fun a s => WpO (f a) fun c => Q c s) : Wp (op1 f wa) st Q := .op1 h
theorem vs_op2 {f : U → U → Option U} {wa wb : M U} (h : Wp wa st fun a s => Wp wb s fun b s => WpO (f a b) fun c => Q c s) : Wp (op2 f wa wb) st Q := .op2 h
theorem vs_test {wa : M U} (h : Wp wa st fun a s => WpO (boolU a) fun b => QT b s) : Wp (testW wa) st QT := .bind (h.mono fun _ _ q => vs_o q)
theorem vs_not {w : M Bool} (h : Wp w st fun b s => QT (!b) s) : Wp (notT w) st QT := .not h
theorem vs_and {w w' : M Bool} (h : Wp w st fun b s => IfP b (Wp w' s QT) (QT false s)) : Wp (andT w w') st QT := .and h
theorem vs_or {w w' : M Bool} (h : Wp w st fun b s => IfP b (QT true s) (Wp w' s QT)) : Wp (orT w w') st QT := .or h
theorem vs_andW {w w' : M U} (h : Wp (testW w) st fun b s => IfP b (Wp w' s Q) (Q (.bl false) s)) : Wp (andW w w') st Q := .andW h
theorem vs_orW {w w' : M U} (h : Wp (testW w) st fun b s => IfP b (Q (.bl true) s) (Wp w' s Q)) : Wp (orW w w') st Q := .orW h
theorem vs_ite {Q : α → Sto → Prop} {c : M Bool} {w w' : M α} (h : Wp c st fun b s => IfP b (Wp w s Q) (Wp w' s Q)) : Wp (iteW c w w') st Q := .ite h
theorem vs_chain {f g : U → U → Option U} {wa wb wc : M U} (h : Wp wa st fun a s => Wp wb s fun b s => WpO (f a b) fun t => WpO (boolU t) fun k => IfP k (Wp wc s fun c s => WpO (g b c) fun r => Q r s) (Q (.bl false) s)) : Wp (chainW f g wa wb wc) st Q :=
  .bind (h.mono fun a _ h => .bind (h.mono fun b s h => .bind (vs_test (vs_o (by
    obtain ⟨t, e, k, e', q⟩ := h
    refine ⟨t, e, k, e', ?_⟩
    cases k with
    | false => exact .ret q
    | true => exact .bind (Wp.mono (show Wp wc s _ from q) fun c s q => vs_o q))))))
theorem vs_consA {wa : M U} {wr : M (List U)} (h : Wp wa st fun a s => Wp wr s fun r s => QA (a :: r) s) : Wp (consA wa wr) st QA := .consA h
theorem vs_nilA (h : QA [] st) : Wp nilA st QA := .ret h
theorem vs_tup {wa : M (List U)} (h : Wp wa st fun us s => us.length ≤ sizeLine ∧ Q (.tup us) s) : Wp (tupW wa) st Q := .tup h
theorem vs_lst {wa : M (List U)} (h : Wp wa st fun us s => us.length ≤ sizeLine ∧ Q (.lst us) s) : Wp (lstW wa) st Q := .lst h
theorem vs_call {f : List U → M U} {wa : M (List U)} (h : Wp wa st fun us s => Wp (f us) s Q) : Wp (callM f wa) st Q := .call h
theorem vs_meth {c m : Str} {f : List U → M U} {wo : M U} {wa : M (List U)} (h : Wp wo st fun o s => WpO (isObj c m o) fun _ => Wp wa s fun us s => Wp (f (o :: us)) s Q) : Wp (methM c m f wo wa) st Q :=
  .bind (h.mono fun o s h => .bind (vs_o (by obtain ⟨x, e, q⟩ := h; exact ⟨x, e, .bind q⟩)))
theorem vs_L0 {f : M U} (h : Wp f st Q) : Wp (L0 f []) st Q := h
theorem vs_L1 {f : U → M U} {a : U} (h : Wp (f a) st Q) : Wp (L1 f [a]) st Q := h
theorem vs_L2 {f : U → U → M U} {a b : U} (h : Wp (f a b) st Q) : Wp (L2' f [a, b]) st Q := h
theorem vs_L3 {f : U → U → U → M U} {a b c : U} (h : Wp (f a b c) st Q) : Wp (L3 f [a, b, c]) st Q := h
theorem vs_L4 {f : U → U → U → U → M U} {a b c d : U} (h : Wp (f a b c d) st Q) : Wp (L4 f [a, b, c, d]) st Q := h
theorem vs_L5 {f : U → U → U → U → U → M U} {a b c d e : U} (h : Wp (f a b c d e) st Q) : Wp (L5 f [a, b, c, d, e]) st Q := h
theorem vs_L6 {f : U → U → U → U → U → U → M U} {a b c d e g : U} (h : Wp (f a b c d e g) st Q) : Wp (L6 f [a, b, c, d, e, g]) st Q := h
theorem vs_seq {Q : Out S' L → Sto → Prop} {w : M (Out S L)} {k : S → M (Out S' L)} (h : Wp w st (SeqK k Q)) : Wp (seqO w k) st Q := .seq (h.mono fun o s q => by cases o <;> exact q)
theorem sk_nx {k : S → M (Out S' L)} {Q : Out S' L → Sto → Prop} {a : S} (h : Wp (k a) st Q) : SeqK (L := L) k Q (.nx a) st := h
theorem sk_rt {k : S → M (Out S' L)} {Q : Out S' L → Sto → Prop} {u : U} (h : Q (.rt u) st) : SeqK (L := L) k Q (.rt u) st := h
theorem sk_bk {k : S → M (Out S' L)} {Q : Out S' L → Sto → Prop} {u : L} (h : Q (.bk u) st) : SeqK (L := L) k Q (.bk u) st := h
theorem sk_ct {k : S → M (Out S' L)} {Q : Out S' L → Sto → Prop} {u : L} (h : Q (.ct u) st) : SeqK (L := L) k Q (.ct u) st := h
theorem fk_rt {u : U} (h : Q u st) : FnK Q (.rt u) st := h
theorem fk_nx {u : Unit} (h : Q .non st) : FnK Q (.nx u) st := h
theorem ok_nx {J : S → Sto → Prop} {Q : Out S L → Sto → Prop} {s : S} (h : J s st) : ForK J Q (.nx s) st := h
theorem ok_ct {J : S → Sto → Prop} {Q : Out S L → Sto → Prop} {s : S} (h : J s st) : ForK J Q (.ct s) st := h
theorem ok_bk {J : S → Sto → Prop} {Q : Out S L → Sto → Prop} {s : S} (h : Q (.nx s) st) : ForK J Q (.bk s) st := h
theorem ok_rt {J : S → Sto → Prop} {Q : Out S L → Sto → Prop} {u : U} (h : Q (.rt u) st) : ForK J Q (.rt u) st := h
theorem vs_rt {Q : Out S L → Sto → Prop} {w : M U} (h : Wp w st fun u s => Q (.rt u) s) : Wp (rtO w) st Q := .rt h
theorem vs_nx {Q : Out S L → Sto → Prop} {s : S} (h : Q (.nx s) st) : Wp (nxO s) st Q := .ret h
theorem vs_fn {w : M (Out Unit Unit)} (h : Wp w st (FnK Q)) : Wp (fnM w) st Q := .fn (h.mono fun o s q => by cases o <;> exact q)
theorem vs_noP {Q : Option Int → Sto → Prop} (h : Q none st) : Wp noP st Q := .ret h
theorem vs_someP {Q : Option Int → Sto → Prop} {w : M U} (h : Wp w st fun u s => WpO (intU u) fun i => Q (some i) s) : Wp (someP w) st Q := .bind (h.mono fun u s q => vs_o (by obtain ⟨i, e, q⟩ := q; exact ⟨some i, by rw [e]; rfl, q⟩))
theorem vs_sl {wa : M U} {wl wh : M (Option Int)} (h : Wp wa st fun a s => Wp wl s fun l s => Wp wh s fun h s => WpO (slU a l h) fun c => Q c s) : Wp (slW wa wl wh) st Q := .bind (h.mono fun _ _ h => .bind (h.mono fun _ _ h => .bind (h.mono fun _ _ h => vs_o h)))
theorem vs_it {w : M U} (h : Wp w st fun u s => WpO (itU u) fun r => QA r s) : Wp (itW w) st QA := .bind (h.mono fun _ _ h => vs_o h)
theorem vs_rng1 {w : M U} (h : Wp w st fun u s => WpO (rng1U u) fun r => QA r s) : Wp (rng1W w) st QA := .bind (h.mono fun _ _ h => vs_o h)
theorem vs_rng2 {w w' : M U} (h : Wp w st fun u s => Wp w' s fun u' s => WpO (rng2U u u') fun r => QA r s) : Wp (rng2W w w') st QA := .bind (h.mono fun _ _ h => .bind (h.mono fun _ _ h => vs_o h))
theorem vs_zip {w w' : M U} (h : Wp w st fun u s => Wp w' s fun u' s => WpO (zipU u u') fun r => QA r s) : Wp (zipW w w') st QA := .bind (h.mono fun _ _ h => .bind (h.mono fun _ _ h => vs_o h))
theorem vs_un2 {Q : α → Sto → Prop} {a b : U} {k : U → U → M α} (h : Wp (k a b) st Q) : Wp (un2 (.tup [a, b]) k) st Q := h
theorem vs_un3 {Q : α → Sto → Prop} {a b c : U} {k : U → U → U → M α} (h : Wp (k a b c) st Q) : Wp (un3 (.tup [a, b, c]) k) st Q := h
theorem vs_un4 {Q : α → Sto → Prop} {a b c d : U} {k : U → U → U → U → M α} (h : Wp (k a b c d) st Q) : Wp (un4 (.tup [a, b, c, d]) k) st Q := h
theorem vs_un5 {Q : α → Sto → Prop} {a b c d e : U} {k : U → U → U → U → U → M α} (h : Wp (k a b c d e) st Q) : Wp (un5 (.tup [a, b, c, d, e]) k) st Q := h
theorem vs_un6 {Q : α → Sto → Prop} {a b c d e f : U} {k : U → U → U → U → U → U → M α} (h : Wp (k a b c d e f) st Q) : Wp (un6 (.tup [a, b, c, d, e, f]) k) st Q := h
theorem wo_sz {us : List U} {P : U → Prop} (e : us.length ≤ sizeLine) (h : P (.lst us)) : WpO (szU us) P := ⟨_, if_pos e, h⟩
/-- a comprehension over typed things: what it comes to -/
theorem vs_lc {wl : M (List U)} {wt : U → M Bool} {we : U → M U} (h : Wp wl st fun us s => Wp (compM wt we us) s fun r s => r.length ≤ sizeLine ∧ Q (.lst r) s) : Wp (lcW wl wt we) st Q := .lc h
theorem vs_lc2 {wl : M (List U)} {wt : U → M Bool} {w1 : U → M (List U)} {wt1 : U → U → M Bool} {we : U → U → M U} (h : Wp wl st fun us s => Wp (comp2M wt w1 wt1 we us) s fun r s => r.length ≤ sizeLine ∧ Q (.lst r) s) : Wp (lc2W wl wt w1 wt1 we) st Q := .bind (h.mono fun _ _ h => .bind (h.mono fun _ _ ⟨l, q⟩ => .o (if_pos l) q))
/-! #### loops over typed things -/
theorem vs_for {τ σ : Type} {c : τ → U} {e : σ → S} {f : U → S → M (Out S S)} {Q : Out S L → Sto → Prop} {xs : List τ} (I : List τ → σ → Sto → Prop) {s0 : S} {t0 : σ} (he : s0 = e t0) (h0 : I [] t0 st)
    (hs : ∀ (pre : List τ) (x : τ) (post : List τ) (s : σ) (st : Sto), xs = pre ++ x :: post → I pre s st → Wp (f (c x) (e s)) st (ForK (fun s' st' => ∃ t, s' = e t ∧ I (pre ++ [x]) t st') Q))
    (hd : ∀ s st, I xs s st → Q (.nx (e s)) st) : Wp (forO f (xs.map c) s0) st Q := by
  subst he
  have key : ∀ (post pre : List τ) (s : σ) (st : Sto), xs = pre ++ post → I pre s st → Wp (forO (L := L) f (post.map c) (e s)) st Q := by
    intro post
    induction post with
    | nil => intro pre s st ex hi; rw [List.append_nil] at ex; subst ex; exact .ret (hd s st hi)
    | cons x post ih =>
      intro pre s st ex hi
      refine .bind ((hs pre x post s st ex hi).mono fun o st' q => ?_)
      cases o with
      | nx s' => obtain ⟨t, rfl, q⟩ := q; exact ih (pre ++ [x]) t st' (by rw [ex]; simp) q
      | ct s' => obtain ⟨t, rfl, q⟩ := q; exact ih (pre ++ [x]) t st' (by rw [ex]; simp) q
      | bk s' => exact .ret q
      | rt u => exact .ret q
  exact key xs [] t0 st rfl h0
/-- a for over range(n) -/
theorem vs_forN {σ : Type} {e : σ → S} {f : U → S → M (Out S S)} {Q : Out S L → Sto → Prop} {n : Nat} (I : Nat → σ → Sto → Prop) {s0 : S} {t0 : σ} (he : s0 = e t0) (h0 : I 0 t0 st)
    (hs : ∀ (i : Nat) (s : σ) (st : Sto), i < n → I i s st → Wp (f (.int (i : Nat)) (e s)) st (ForK (fun s' st' => ∃ t, s' = e t ∧ I (i + 1) t st') Q))
    (hd : ∀ s st, I n s st → Q (.nx (e s)) st) : Wp (forO f ((List.range n).map fun i => .int (i : Nat)) s0) st Q := by
  subst he
  refine vs_for (c := fun i : Nat => U.int (i : Nat)) (e := e) (xs := List.range n) (fun pre s st => pre = List.range pre.length ∧ I pre.length s st) (t0 := t0) rfl ⟨rfl, h0⟩ ?_ ?_
  · rintro pre x post s st ex ⟨hp, hi⟩
    have hl : pre.length < n := by have := congrArg List.length ex; simp at this; omega
    have hx : x = pre.length := by
      have h1 : (List.range n)[pre.length]? = some x := by rw [ex]; simp
      rw [List.getElem?_range hl] at h1
      exact (Option.some.inj h1).symm
    subst hx
    refine (hs pre.length s st hl hi).mono fun o st' q => ?_
    have hp' : pre ++ [pre.length] = List.range (pre ++ [pre.length]).length := by
      rw [List.length_append, List.length_singleton, List.range_succ, ← hp]
    cases o with
    | nx s' => obtain ⟨t, rfl, q⟩ := q; exact ⟨t, rfl, hp', by simpa using q⟩
    | ct s' => obtain ⟨t, rfl, q⟩ := q; exact ⟨t, rfl, hp', by simpa using q⟩
    | bk s' => exact q
    | rt u => exact q
  · rintro s st ⟨_, hi⟩
    exact hd s st (by simpa using hi)
/-- a comprehension over typed things that may draw -/
theorem vs_comp {τ κ : Type} {c : τ → U} {d : κ → U} {wt : U → M Bool} {we : U → M U} {xs : List τ} (I : List τ → List κ → Sto → Prop) (h0 : I [] [] st)
    (hs : ∀ (pre : List τ) (x : τ) (post : List τ) (r : List κ) (st : Sto), xs = pre ++ x :: post → I pre r st → Wp (wt (c x)) st fun b s => IfP b (Wp (we (c x)) s fun y s => ∃ z, y = d z ∧ I (pre ++ [x]) (r ++ [z]) s) (I (pre ++ [x]) r s))
    (hd : ∀ r st, I xs r st → QA (r.map d) st) : Wp (compM wt we (xs.map c)) st QA := by
  have key : ∀ (post pre : List τ) (r : List κ) (st : Sto), xs = pre ++ post → I pre r st → Wp (compM wt we (post.map c)) st fun x s => QA (r.map d ++ x) s := by
    intro post
    induction post with
    | nil => intro pre r st ex hi; rw [List.append_nil] at ex; subst ex; exact .ret (by rw [List.append_nil]; exact hd r st hi)
    | cons x post ih =>
      intro pre r st ex hi
      refine .bind ((hs pre x post r st ex hi).mono fun b s q => ?_)
      cases b with
      | false => exact ih (pre ++ [x]) r s (by rw [ex]; simp) q
      | true => exact .bind (Wp.mono (show Wp (we (c x)) s _ from q) fun y s ⟨z, ey, q⟩ => .bind ((ih (pre ++ [x]) (r ++ [z]) s (by rw [ex]; simp) q).mono fun y' s q => .ret (by subst ey; simpa using q)))
  exact (key xs [] [] st rfl h0).mono fun x s q => q
/-- the same over range(n) -/
theorem vs_compN {κ : Type} {d : κ → U} {wt : U → M Bool} {we : U → M U} {n : Nat} (I : Nat → List κ → Sto → Prop) (h0 : I 0 [] st)
    (hs : ∀ (i : Nat) (r : List κ) (st : Sto), i < n → I i r st → Wp (wt (.int (i : Nat))) st fun b s => IfP b (Wp (we (.int (i : Nat))) s fun y s => ∃ z, y = d z ∧ I (i + 1) (r ++ [z]) s) (I (i + 1) r s))
    (hd : ∀ r st, I n r st → QA (r.map d) st) : Wp (compM wt we ((List.range n).map fun i => .int (i : Nat))) st QA := by
  refine vs_comp (c := fun i : Nat => U.int (i : Nat)) (d := d) (xs := List.range n) (fun pre r st => pre = List.range pre.length ∧ I pre.length r st) ⟨rfl, h0⟩ ?_ ?_
  · rintro pre x post r st ex ⟨hp, hi⟩
    have hl : pre.length < n := by have := congrArg List.length ex; simp at this; omega
    have hx : x = pre.length := by
      have h1 : (List.range n)[pre.length]? = some x := by rw [ex]; simp
      rw [List.getElem?_range hl] at h1
      exact (Option.some.inj h1).symm
    subst hx
    have hp' : pre ++ [pre.length] = List.range (pre ++ [pre.length]).length := by
      rw [List.length_append, List.length_singleton, List.range_succ, ← hp]
    refine (hs pre.length r st hl hi).mono fun b st' q => ?_
    cases b with
    | false => exact ⟨hp', by simpa using (show I (pre.length + 1) r st' from q)⟩
    | true => exact Wp.mono (show Wp (we _) st' _ from q) fun y s ⟨z, e, q⟩ => ⟨z, e, hp', by simpa using q⟩
  · rintro r st ⟨_, hi⟩
    exact hd r st (by simpa using hi)
end
/-! #### pieces that only reckon -/
section
variable {α β : Type}
theorem eq_of_wp {w : M α} {a : α} (h : ∀ st, Wp w st fun x s => x = a ∧ s = st) : w = .ret a := by
  funext st
  obtain ⟨x, s, e, rfl, rfl⟩ := h st
  exact e
theorem wp_of_eq {w : M α} {a : α} {st : Sto} {Q : α → Sto → Prop} (e : w = .ret a) (q : Q a st) : Wp w st Q := e ▸ .ret q
/-- a comprehension without draws -/
theorem comp_eq {τ κ : Type} {c : τ → U} {d : κ → U} {wt : U → M Bool} {we : U → M U} {p : τ → Bool} {g : τ → κ} : ∀ {xs : List τ}, (∀ x ∈ xs, wt (c x) = .ret (p x) ∧ (p x = true → we (c x) = .ret (d (g x)))) → compM wt we (xs.map c) = .ret (((xs.filter p).map g).map d)
  | [], _ => rfl
  | x :: xs, h => by
    have ih := comp_eq (xs := xs) fun y m => h y (List.mem_cons_of_mem _ m)
    obtain ⟨h1, h2⟩ := h x List.mem_cons_self
    rw [List.map_cons, compM, h1, M.bind_ret, List.filter_cons]
    cases e : p x with
    | false => exact ih
    | true => rw [if_pos rfl, h2 e, M.bind_ret, ih]; rfl
/-- a loop without draws -/
theorem for_eq {τ σ S L : Type} {c : τ → U} {e : σ → S} {f : U → S → M (Out S S)} {g : σ → τ → σ} : ∀ {xs : List τ} {s : σ}, (∀ x ∈ xs, ∀ s, f (c x) (e s) = nxO (e (g s x))) → forO (L := L) f (xs.map c) (e s) = nxO (e (xs.foldl g s))
  | [], _, _ => rfl
  | x :: xs, s, h => by
    rw [List.map_cons, forO, h x List.mem_cons_self s, nxO, M.bind_ret]
    exact for_eq fun y m => h y (List.mem_cons_of_mem _ m)
end
end UX

set_option Elab.async false
set_option linter.all false
set_option maxRecDepth 100000
set_option maxHeartbeats 4000000
set_option autoImplicit false
namespace UX
open PySem PySem.Spec
/-! ### small data: shown, and compared -/
mutual
def smU : U → Bool
  | .non => true
  | .bl _ => true
  | .int i => decide (i.natAbs < 1000000000000)
  | .str x => PyData.strOk x && decide (x.cps.size ≤ 100)
  | .tup us => smA us
  | .lst us => smA us
  | _ => false
def smA : List U → Bool
  | [] => true
  | u :: us => smU u && smA us
end
mutual
def wtU : U → Nat
  | .tup us => wtA us
  | .lst us => wtA us
  | _ => 100
def wtA : List U → Nat
  | [] => 0
  | u :: us => wtU u + 1 + wtA us
end
mutual
def dpU : U → Nat
  | .tup us => dpA us + 1
  | .lst us => dpA us + 1
  | _ => 0
def dpA : List U → Nat
  | [] => 0
  | u :: us => max (dpU u) (dpA us)
end
structure SmD (u : U) (d : PyData) : Prop where
  pd : pd u = some d
  sh : d.showable = true
  nd : d.hasDict = false
  dp : d.depth = dpU u
  ls : d.leavesShort 13 = true
  wt : d.weight ≤ wtU u
  cl : d.canLay0 = true
structure SmDA (us : List U) (ds : List PyData) : Prop where
  pd : pdAll us = some ds
  sh : PyData.showableAll ds = true
  nd : PyData.hasDictAll ds = false
  dp : PyData.depthAll ds = dpA us
  ls : PyData.leavesShortAll 13 ds = true
  wt : PyData.weightAll ds ≤ wtA us
  cl : PyData.canLayAll0 ds = true
theorem log_small {i : Int} (h : i.natAbs < 1000000000000) : i.natAbs.log2 < 41 := by
  by_cases z : i.natAbs = 0
  · rw [z]; decide
  · exact (Nat.log2_lt z).mpr (Nat.lt_of_lt_of_le h (by decide))
mutual
theorem sm_pd : ∀ u : U, smU u = true → ∃ d, SmD u d
  | .non, _ => ⟨.none, rfl, rfl, rfl, rfl, rfl, by decide, rfl⟩
  | .bl b, _ => ⟨.bool b, rfl, rfl, rfl, rfl, rfl, by show 0 ≤ 100; decide, rfl⟩
  | .int i, h => by
    have h : i.natAbs < 1000000000000 := by simpa [smU] using h
    have hl := log_small h
    refine ⟨.int i, rfl, ?_, rfl, rfl, ?_, ?_, rfl⟩
    · simp only [PyData.showable]; exact decide_eq_true (by omega)
    · have h1 : PyData.leavesShortAll 13 ([i].map .int) = true := PyData.leavesShortAll_of_canLay0 13 _ (EL.canLayAll_ints [i]) (PyData.intsShortAll_ints [i] fun n hn => by rw [List.mem_singleton.mp hn]; omega)
      simpa [PyData.leavesShortAll] using h1
    · simp only [PyData.weight, wtU]
      split <;> omega
  | .str x, h => by
    have h : PyData.strOk x = true ∧ x.cps.size ≤ 100 := by simpa [smU] using h
    refine ⟨.str x, rfl, rfl, rfl, rfl, ?_, h.2, h.1⟩
    exact PyData.leavesShort_of_canLay0 13 (.str x) h.1 rfl
  | .tup us, h => by
    obtain ⟨ds, e⟩ := smA_pd us h
    exact ⟨.tuple ds, by simp [pd, e.pd], by simpa [PyData.showable] using e.sh, by simpa [PyData.hasDict] using e.nd, by simp [PyData.depth, dpU, e.dp], by simpa [PyData.leavesShort] using e.ls, by simpa [PyData.weight, wtU] using e.wt, by simpa [PyData.canLay0] using e.cl⟩
  | .lst us, h => by
    obtain ⟨ds, e⟩ := smA_pd us h
    exact ⟨.list ds, by simp [pd, e.pd], by simpa [PyData.showable] using e.sh, by simpa [PyData.hasDict] using e.nd, by simp [PyData.depth, dpU, e.dp], by simpa [PyData.leavesShort] using e.ls, by simpa [PyData.weight, wtU] using e.wt, by simpa [PyData.canLay0] using e.cl⟩
  | .dct _ _, h => by simp [smU] at h
  | .dcT _ _, h => by simp [smU] at h
  | .obj _ _ _, h => by simp [smU] at h
  | .top _, h => by simp [smU] at h
  | .frl _, h => by simp [smU] at h
  | .loc _, h => by simp [smU] at h
theorem smA_pd : ∀ us : List U, smA us = true → ∃ ds, SmDA us ds
  | [], _ => ⟨[], rfl, rfl, rfl, rfl, rfl, Nat.le_refl _, rfl⟩
  | u :: us, h => by
    have h : smU u = true ∧ smA us = true := by simpa [smA] using h
    obtain ⟨d, e⟩ := sm_pd u h.1
    obtain ⟨ds, f⟩ := smA_pd us h.2
    have w1 := e.wt
    have w2 := f.wt
    exact ⟨d :: ds, by simp [pdAll, e.pd, f.pd], by simp [PyData.showableAll, e.sh, f.sh], by simp [PyData.hasDictAll, e.nd, f.nd], by simp [PyData.depthAll, dpA, e.dp, f.dp], by simp [PyData.leavesShortAll, e.ls, f.ls], by simp only [PyData.weightAll, wtA]; omega, by simp [PyData.canLayAll0, e.cl, f.cl]⟩
end
theorem repr_sm {u : U} (h : smU u = true) (hd : dpU u ≤ 60) (hw : wtU u ≤ 1000000) : ∃ x, reprU u = some (.str x) := by
  obtain ⟨d, e⟩ := sm_pd u h
  refine ⟨d.shown, ?_⟩
  have hs := PyData.shown_fits (B := 13) (by decide) (by decide) e.ls (by have := e.wt; omega)
  have hdd := e.dp
  unfold reprU
  rw [e.pd]
  exact if_pos ⟨e.sh, e.nd, by omega, hs⟩
/-! comparing -/
mutual
def nbU : U → Bool
  | .int _ => true
  | .non => true
  | .str x => PyData.strOk x
  | .tup us => nbA us
  | .lst us => nbA us
  | _ => false
def nbA : List U → Bool
  | [] => true
  | u :: us => nbU u && nbA us
end
structure NbD (u : U) (d : PyData) : Prop where
  pd : pd u = some d
  dp : d.depth = dpU u
  cl : d.canLay0 = true
structure NbDA (us : List U) (ds : List PyData) : Prop where
  pd : pdAll us = some ds
  dp : PyData.depthAll ds = dpA us
  cl : PyData.canLayAll0 ds = true
mutual
theorem nb_pd : ∀ u : U, nbU u = true → ∃ d, NbD u d
  | .non, _ => ⟨.none, rfl, rfl, rfl⟩
  | .int i, _ => ⟨.int i, rfl, rfl, rfl⟩
  | .str x, h => ⟨.str x, rfl, rfl, by simpa [nbU, PyData.canLay0] using h⟩
  | .tup us, h => by
    obtain ⟨ds, e⟩ := nbA_pd us h
    exact ⟨.tuple ds, by simp [pd, e.pd], by simp [PyData.depth, dpU, e.dp], by simpa [PyData.canLay0] using e.cl⟩
  | .lst us, h => by
    obtain ⟨ds, e⟩ := nbA_pd us h
    exact ⟨.list ds, by simp [pd, e.pd], by simp [PyData.depth, dpU, e.dp], by simpa [PyData.canLay0] using e.cl⟩
  | .bl _, h => by simp [nbU] at h
  | .dct _ _, h => by simp [nbU] at h
  | .dcT _ _, h => by simp [nbU] at h
  | .obj _ _ _, h => by simp [nbU] at h
  | .top _, h => by simp [nbU] at h
  | .frl _, h => by simp [nbU] at h
  | .loc _, h => by simp [nbU] at h
theorem nbA_pd : ∀ us : List U, nbA us = true → ∃ ds, NbDA us ds
  | [], _ => ⟨[], rfl, rfl, rfl⟩
  | u :: us, h => by
    have h : nbU u = true ∧ nbA us = true := by simpa [nbA] using h
    obtain ⟨d, e⟩ := nb_pd u h.1
    obtain ⟨ds, f⟩ := nbA_pd us h.2
    exact ⟨d :: ds, by simp [pdAll, e.pd, f.pd], by simp [PyData.depthAll, dpA, e.dp, f.dp], by simp [PyData.canLayAll0, e.cl, f.cl]⟩
end
theorem pdAll_cons {u : U} {us : List U} {ds : List PyData} (h : pdAll (u :: us) = some ds) : ∃ d r, ds = d :: r ∧ pd u = some d ∧ pdAll us = some r := by
  rw [pdAll] at h
  cases e : pd u with
  | none => rw [e] at h; cases h
  | some d =>
    cases f : pdAll us with
    | none => rw [e, f] at h; cases h
    | some r => rw [e, f] at h; cases h; exact ⟨d, r, rfl, rfl, rfl⟩
theorem pd_tup {us : List U} {d : PyData} (h : pd (.tup us) = some d) : ∃ ds, d = .tuple ds ∧ pdAll us = some ds := by
  obtain ⟨ds, e, rfl⟩ := Option.map_eq_some_iff.mp (show (pdAll us).map .tuple = some d from h)
  exact ⟨ds, rfl, e⟩
theorem pd_lst {us : List U} {d : PyData} (h : pd (.lst us) = some d) : ∃ ds, d = .list ds ∧ pdAll us = some ds := by
  obtain ⟨ds, e, rfl⟩ := Option.map_eq_some_iff.mp (show (pdAll us).map .list = some d from h)
  exact ⟨ds, rfl, e⟩
mutual
theorem eqv_iff : ∀ (u v : U) (d e : PyData), nbU u = true → nbU v = true → pd u = some d → pd v = some e → (PyData.eqv d e = true ↔ u = v)
  | .non, v, d, e, _, hv, e1, e2 => by
    cases e1
    cases v <;> simp [nbU] at hv <;> first
      | (cases e2; simp [PyData.eqv])
      | (obtain ⟨ds, rfl, _⟩ := pd_tup e2; simp [PyData.eqv])
      | (obtain ⟨ds, rfl, _⟩ := pd_lst e2; simp [PyData.eqv])
  | .int i, v, d, e, _, hv, e1, e2 => by
    cases e1
    cases v <;> simp [nbU] at hv <;> first
      | (cases e2; simp [PyData.eqv])
      | (obtain ⟨ds, rfl, _⟩ := pd_tup e2; simp [PyData.eqv])
      | (obtain ⟨ds, rfl, _⟩ := pd_lst e2; simp [PyData.eqv])
  | .str i, v, d, e, _, hv, e1, e2 => by
    cases e1
    cases v <;> simp [nbU] at hv <;> first
      | (cases e2; simp [PyData.eqv])
      | (obtain ⟨ds, rfl, _⟩ := pd_tup e2; simp [PyData.eqv])
      | (obtain ⟨ds, rfl, _⟩ := pd_lst e2; simp [PyData.eqv])
  | .tup us, v, d, e, hu, hv, e1, e2 => by
    obtain ⟨ds, rfl, f⟩ := pd_tup e1
    cases v with
    | tup vs =>
      obtain ⟨es, rfl, g⟩ := pd_tup e2
      rw [PyData.eqv, eqvA_iff us vs ds es hu hv f g]
      simp
    | lst vs => obtain ⟨es, rfl, g⟩ := pd_lst e2; simp [PyData.eqv]
    | non => cases e2; simp [PyData.eqv]
    | int _ => cases e2; simp [PyData.eqv]
    | str _ => cases e2; simp [PyData.eqv]
    | _ => simp [nbU] at hv
  | .lst us, v, d, e, hu, hv, e1, e2 => by
    obtain ⟨ds, rfl, f⟩ := pd_lst e1
    cases v with
    | lst vs =>
      obtain ⟨es, rfl, g⟩ := pd_lst e2
      rw [PyData.eqv, eqvA_iff us vs ds es hu hv f g]
      simp
    | tup vs => obtain ⟨es, rfl, g⟩ := pd_tup e2; simp [PyData.eqv]
    | non => cases e2; simp [PyData.eqv]
    | int _ => cases e2; simp [PyData.eqv]
    | str _ => cases e2; simp [PyData.eqv]
    | _ => simp [nbU] at hv
  | .bl _, _, _, _, h, _, _, _ => by simp [nbU] at h
  | .dct _ _, _, _, _, h, _, _, _ => by simp [nbU] at h
  | .dcT _ _, _, _, _, h, _, _, _ => by simp [nbU] at h
  | .obj _ _ _, _, _, _, h, _, _, _ => by simp [nbU] at h
  | .top _, _, _, _, h, _, _, _ => by simp [nbU] at h
  | .frl _, _, _, _, h, _, _, _ => by simp [nbU] at h
  | .loc _, _, _, _, h, _, _, _ => by simp [nbU] at h
theorem eqvA_iff : ∀ (us vs : List U) (ds es : List PyData), nbA us = true → nbA vs = true → pdAll us = some ds → pdAll vs = some es → (PyData.eqvAll ds es = true ↔ us = vs)
  | [], [], ds, es, _, _, e1, e2 => by cases e1; cases e2; simp [PyData.eqvAll]
  | [], v :: vs, ds, es, _, _, e1, e2 => by
    cases e1
    obtain ⟨d, r, rfl, _, _⟩ := pdAll_cons e2
    simp [PyData.eqvAll]
  | u :: us, [], ds, es, _, _, e1, e2 => by
    cases e2
    obtain ⟨d, r, rfl, _, _⟩ := pdAll_cons e1
    simp [PyData.eqvAll]
  | u :: us, v :: vs, ds, es, hu, hv, e1, e2 => by
    have hu : nbU u = true ∧ nbA us = true := by simpa [nbA] using hu
    have hv : nbU v = true ∧ nbA vs = true := by simpa [nbA] using hv
    obtain ⟨d, r, rfl, f1, f2⟩ := pdAll_cons e1
    obtain ⟨e, s, rfl, g1, g2⟩ := pdAll_cons e2
    rw [PyData.eqvAll, Bool.and_eq_true_iff, eqv_iff u v d e hu.1 hv.1 f1 g1, eqvA_iff us vs r s hu.2 hv.2 f2 g2]
    simp
end
theorem eqD_nb {u v : U} (hu : nbU u = true) (hv : nbU v = true) (du : dpU u ≤ 64) (dv : dpU v ≤ 64) {b : Bool} (hb : b = true ↔ u = v) : eqD u v = some (.bl b) := by
  obtain ⟨d, e⟩ := nb_pd u hu
  obtain ⟨d', e'⟩ := nb_pd v hv
  have h := eqv_iff u v d d' hu hv e.pd e'.pd
  have s1 : SeqAt.shaped d = true := by simp only [SeqAt.shaped, e.cl, e.dp, Bool.true_and]; exact decide_eq_true du
  have s2 : SeqAt.shaped d' = true := by simp only [SeqAt.shaped, e'.cl, e'.dp, Bool.true_and]; exact decide_eq_true dv
  unfold eqD
  rw [e.pd, e'.pd]
  have : PyData.eqv d d' = b := by rw [Bool.eq_iff_iff, h, hb]
  simp only [s1, s2, this, and_self, if_true]
theorem neD_nb {u v : U} (hu : nbU u = true) (hv : nbU v = true) (du : dpU u ≤ 64) (dv : dpU v ≤ 64) {b : Bool} (hb : b = true ↔ u = v) : neD u v = some (.bl (!b)) := by
  obtain ⟨d, e⟩ := nb_pd u hu
  obtain ⟨d', e'⟩ := nb_pd v hv
  have h := eqv_iff u v d d' hu hv e.pd e'.pd
  have s1 : SeqAt.shaped d = true := by simp only [SeqAt.shaped, e.cl, e.dp, Bool.true_and]; exact decide_eq_true du
  have s2 : SeqAt.shaped d' = true := by simp only [SeqAt.shaped, e'.cl, e'.dp, Bool.true_and]; exact decide_eq_true dv
  unfold neD
  rw [e.pd, e'.pd]
  have : PyData.eqv d d' = b := by rw [Bool.eq_iff_iff, h, hb]
  simp only [s1, s2, this, and_self, if_true]
theorem eqU_nb {u v : U} (hu : nbU u = true) (hv : nbU v = true) (du : dpU u ≤ 64) (dv : dpU v ≤ 64) {b : Bool} (hb : b = true ↔ u = v) : eqU u v = some (.bl b) := by
  cases u with
  | str x =>
    cases v with
    | str y => exact eqU_str (by rw [Bool.eq_iff_iff, hb]; simp)
    | _ => exact eqD_nb hu hv du dv hb
  | _ => exact eqD_nb hu hv du dv hb
theorem neU_nb {u v : U} (hu : nbU u = true) (hv : nbU v = true) (du : dpU u ≤ 64) (dv : dpU v ≤ 64) {b : Bool} (hb : b = true ↔ u = v) : neU u v = some (.bl (!b)) := by
  cases u with
  | str x =>
    cases v with
    | str y => exact neU_str (by congr 1; rw [Bool.eq_iff_iff, hb]; simp)
    | _ => exact neD_nb hu hv du dv hb
  | _ => exact neD_nb hu hv du dv hb
/-! typed things -/
theorem smA_map {τ : Type} {c : τ → U} : ∀ {xs : List τ}, (∀ x ∈ xs, smU (c x) = true) → smA (xs.map c) = true
  | [], _ => rfl
  | x :: xs, h => by simp [smA, h x List.mem_cons_self, smA_map fun y m => h y (List.mem_cons_of_mem _ m)]
theorem nbA_map {τ : Type} {c : τ → U} : ∀ {xs : List τ}, (∀ x ∈ xs, nbU (c x) = true) → nbA (xs.map c) = true
  | [], _ => rfl
  | x :: xs, h => by simp [nbA, h x List.mem_cons_self, nbA_map fun y m => h y (List.mem_cons_of_mem _ m)]
theorem wtA_map {τ : Type} {c : τ → U} {k : Nat} : ∀ {xs : List τ}, (∀ x ∈ xs, wtU (c x) ≤ k) → wtA (xs.map c) ≤ xs.length * (k + 1)
  | [], _ => Nat.zero_le _
  | x :: xs, h => by
    have := wtA_map (xs := xs) fun y m => h y (List.mem_cons_of_mem _ m)
    have := h x List.mem_cons_self
    rw [List.map_cons, wtA, List.length_cons, Nat.add_mul]
    omega
theorem dpA_map {τ : Type} {c : τ → U} {k : Nat} : ∀ {xs : List τ}, (∀ x ∈ xs, dpU (c x) ≤ k) → dpA (xs.map c) ≤ k
  | [], _ => Nat.zero_le _
  | x :: xs, h => by
    have := dpA_map (xs := xs) fun y m => h y (List.mem_cons_of_mem _ m)
    have := h x List.mem_cons_self
    rw [List.map_cons, dpA]
    omega
theorem nb_ints (xs : List Int) : nbA (xs.map .int) = true := nbA_map fun _ _ => rfl
theorem dp_ints (xs : List Int) : dpA (xs.map .int) = 0 := Nat.le_zero.mp (dpA_map fun _ _ => Nat.le_refl 0)
theorem sm_ints {xs : List Int} (h : ∀ x ∈ xs, x.natAbs < 1000000000000) : smA (xs.map .int) = true := smA_map fun x m => by simpa [smU] using h x m
theorem wt_ints (xs : List Int) : wtA (xs.map .int) ≤ xs.length * 101 := wtA_map (k := 100) fun _ _ => Nat.le_refl _
theorem map_inj {τ : Type} {c : τ → U} (hc : ∀ x y, c x = c y → x = y) : ∀ {a b : List τ}, a.map c = b.map c ↔ a = b
  | [], [] => by simp
  | [], _ :: _ => by simp
  | _ :: _, [] => by simp
  | x :: a, y :: b => by
    rw [List.map_cons, List.map_cons, List.cons.injEq, List.cons.injEq, map_inj hc (a := a) (b := b)]
    exact ⟨fun h => ⟨hc x y h.1, h.2⟩, fun h => ⟨by rw [h.1], h.2⟩⟩
theorem map_int_inj {a b : List Int} : a.map U.int = b.map U.int ↔ a = b := map_inj fun x y e => by cases e; rfl
end UX

set_option Elab.async false
set_option linter.all false
set_option maxRecDepth 100000
set_option maxHeartbeats 4000000
set_option autoImplicit false
namespace UX
open PySem PySem.Spec L2
section
variable {P : U → Prop} {i j : Int} {a b : List U} {x y : Str}
theorem wo_add_i (h : P (.int (i + j))) : WpO (addU (.int i) (.int j)) P := ⟨_, rfl, h⟩
theorem wo_add_t (l : a.length + b.length ≤ sizeLine) (h : P (.tup (a ++ b))) : WpO (addU (.tup a) (.tup b)) P := ⟨_, if_pos l, h⟩
theorem wo_add_l (l : a.length + b.length ≤ sizeLine) (h : P (.lst (a ++ b))) : WpO (addU (.lst a) (.lst b)) P := ⟨_, if_pos l, h⟩
theorem wo_sub (h : P (.int (i - j))) : WpO (subU (.int i) (.int j)) P := ⟨_, rfl, h⟩
theorem wo_mul (c : (-18446744073709551616 < i ∧ i < 18446744073709551616) ∨ (-18446744073709551616 < j ∧ j < 18446744073709551616)) (h : P (.int (i * j))) : WpO (mulU (.int i) (.int j)) P := ⟨_, if_pos c, h⟩
theorem wo_mod (c : j ≠ 0) (h : P (.int (i.fmod j))) : WpO (modU (.int i) (.int j)) P := ⟨_, if_pos c, h⟩
theorem wo_modp (c : 0 < j) (h : ∀ r : Int, r = i.fmod j → 0 ≤ r → r < j → P (.int r)) : WpO (modU (.int i) (.int j)) P := ⟨_, if_pos (by omega), h _ rfl (Int.fmod_nonneg_of_pos _ c) (Int.fmod_lt_of_pos _ c)⟩
theorem wo_fdiv (c : j ≠ 0) (c2 : j.natAbs < 1073741824) (h : P (.int (i.fdiv j))) : WpO (fdivU (.int i) (.int j)) P := ⟨_, if_pos ⟨c, c2⟩, h⟩
theorem wo_neg (h : P (.int (-i))) : WpO (negU (.int i)) P := ⟨_, rfl, h⟩
theorem wo_le (h : P (.bl (decide (i ≤ j)))) : WpO (leU (.int i) (.int j)) P := ⟨_, rfl, h⟩
theorem wo_lt (h : P (.bl (decide (i < j)))) : WpO (ltU (.int i) (.int j)) P := ⟨_, rfl, h⟩
theorem wo_gt (h : P (.bl (decide (j < i)))) : WpO (gtU (.int i) (.int j)) P := ⟨_, rfl, h⟩
theorem wo_ge (h : P (.bl (decide (j ≤ i)))) : WpO (geU (.int i) (.int j)) P := ⟨_, rfl, h⟩
theorem wo_eq_i (h : P (.bl (decide (i = j)))) : WpO (eqU (.int i) (.int j)) P := ⟨_, eqU_int i j, h⟩
theorem neU_i (i j : Int) : neU (.int i) (.int j) = some (.bl (!decide (i = j))) := neU_nb (u := .int i) (v := .int j) rfl rfl (Nat.zero_le _) (Nat.zero_le _) (b := decide (i = j)) (by simp)
theorem wo_ne_i (h : P (.bl (!decide (i = j)))) : WpO (neU (.int i) (.int j)) P := ⟨_, neU_i i j, h⟩
theorem wo_eq_s (h : P (.bl (decide (x = y)))) : WpO (eqU (.str x) (.str y)) P := ⟨_, rfl, h⟩
theorem wo_ne_s (h : P (.bl (!decide (x = y)))) : WpO (neU (.str x) (.str y)) P := ⟨_, rfl, h⟩
theorem wo_not {t : Bool} (h : P (.bl (!t))) : WpO (notU (.bl t)) P := ⟨_, rfl, h⟩
theorem wo_bool {t : Bool} {P : Bool → Prop} (h : P t) : WpO (boolU (.bl t)) P := ⟨_, rfl, h⟩
theorem wo_int {P : Int → Prop} (h : P i) : WpO (intU (.int i)) P := ⟨_, rfl, h⟩
theorem wo_len_t (h : P (.int a.length)) : WpO (lenU (.tup a)) P := ⟨_, rfl, h⟩
theorem wo_len_l (h : P (.int a.length)) : WpO (lenU (.lst a)) P := ⟨_, rfl, h⟩
theorem wo_len_f (h : P (.int a.length)) : WpO (lenU (.frl a)) P := ⟨_, rfl, h⟩
theorem wo_tuple_l (h : P (.tup a)) : WpO (tupleU (.lst a)) P := ⟨_, rfl, h⟩
theorem wo_tuple_t (h : P (.tup a)) : WpO (tupleU (.tup a)) P := ⟨_, rfl, h⟩
theorem wo_list_l (h : P (.lst a)) : WpO (listU (.lst a)) P := ⟨_, rfl, h⟩
theorem wo_list_t (h : P (.lst a)) : WpO (listU (.tup a)) P := ⟨_, rfl, h⟩
theorem wo_it_t {P : List U → Prop} (h : P a) : WpO (itU (.tup a)) P := ⟨_, rfl, h⟩
theorem wo_it_l {P : List U → Prop} (h : P a) : WpO (itU (.lst a)) P := ⟨_, rfl, h⟩
theorem wo_it_f {P : List U → Prop} (h : P a) : WpO (itU (.frl a)) P := ⟨_, rfl, h⟩
theorem wo_rng1 {P : List U → Prop} (c : -1000000000 < i ∧ i < 1000000000) (h : P ((List.range i.toNat).map fun i => .int (i : Nat))) : WpO (rng1U (.int i)) P := ⟨_, if_pos ⟨by omega, by omega⟩, h⟩
theorem wo_rng2 {P : List U → Prop} (c : -1000000000 < i ∧ i < 1000000000) (c2 : -1000000000 < j ∧ j < 1000000000) (h : P ((List.range (j - i).toNat).map fun k => .int (i + (k : Nat)))) : WpO (rng2U (.int i) (.int j)) P := ⟨_, if_pos ⟨⟨by omega, by omega⟩, ⟨by omega, by omega⟩⟩, h⟩
theorem atI_get {us : List U} {k : Nat} {u : U} (h : us[k]? = some u) : atI us (k : Int) = some u := by
  have hk : k < us.length := getElem?_lt h
  unfold atI ixN
  rw [if_pos (by omega), if_pos (by omega)]
  simpa using h
theorem wo_ix_t {u : U} (e : atI a i = some u) (h : P u) : WpO (ixU (.tup a) (.int i)) P := ⟨u, e, h⟩
theorem wo_ix_l {u : U} (e : atI a i = some u) (h : P u) : WpO (ixU (.lst a) (.int i)) P := ⟨u, e, h⟩
theorem wo_sl_t {l h' : Option Int} (h : P (.tup (EL.cut a l h'))) : WpO (slU (.tup a) l h') P := ⟨_, rfl, h⟩
theorem wo_sl_l {l h' : Option Int} (h : P (.lst (EL.cut a l h'))) : WpO (slU (.lst a) l h') P := ⟨_, rfl, h⟩
theorem wo_zip_tt {P : List U → Prop} (h : P (zipL a b)) : WpO (zipU (.tup a) (.tup b)) P := ⟨_, rfl, h⟩
theorem wo_app {h' : U → U} {u : U} {P : U × U → Prop} (l : a.length < sizeLine) (h : P (.non, h' (.lst (a ++ [u])))) : WpO (mutL appL (.lst a, h') [u]) P := ⟨_, by
  have e : appL a [u] = some (.non, a ++ [u]) := if_pos l
  show (appL a [u]).map _ = _
  rw [e]; rfl, h⟩
theorem wo_ext {h' : U → U} {P : U × U → Prop} (l : a.length + b.length ≤ sizeLine) (h : P (.non, h' (.lst (a ++ b)))) : WpO (mutL extL (.lst a, h') [.lst b]) P := ⟨_, by
  have e : extL a [.lst b] = some (.non, a ++ b) := if_pos l
  show (extL a [.lst b]).map _ = _
  rw [e]; rfl, h⟩
end
theorem wo_isObj {c m : Str} {u x : U} {P : U → Prop} (e : isObj c m u = some x) (h : P x) : WpO (isObj c m u) P := ⟨x, e, h⟩
theorem wo_fld {cs : List Str} {f : Str} {u x : U} {P : U → Prop} (e : fldU cs f u = some x) (h : P x) : WpO (fldU cs f u) P := ⟨x, e, h⟩
theorem if_nt {A B : Prop} (h : B) : IfP (!true) A B := h
theorem if_nf {A B : Prop} (h : A) : IfP (!false) A B := h
theorem lit_le {n : Nat} (h : Nat.ble n sizeLine = true) : n ≤ sizeLine := Nat.le_of_ble_eq_true h
end UX

set_option Elab.async false
set_option linter.all false
set_option maxRecDepth 100000
set_option maxHeartbeats 4000000
set_option autoImplicit false
namespace EK
open PySem PySem.Spec PyProof.Rows L2 UX
open EL (op_addK op_mulK op_eqK op_neK op_ltK sl_seqK ix_seqK op_inK op_notInK call_lenK call_tupleK call_listK call_isiK call_reprK cr_anyK cr_allK pi_seqK pi_listK pe_callG FnG rm66 op_inDK op_notInDK)
def top (i : Nat) : Stmt := PySem.Challenge.pw_endlesshall_k10_ends_and_certain_ones.main.body.getD i (.Pass ⟨0, 0, 0, 0⟩)
def inn (i j : Nat) : Stmt := match top i with
  | .ClassDef _ _ _ b _ _ _ _ _ _ _ => b.getD j (.Pass ⟨0, 0, 0, 0⟩)
  | _ => .Pass ⟨0, 0, 0, 0⟩

abbrev s__law_hand : Stmt := top 22
abbrev N__law_hand : List Str := ["_law_script", "_law_seed", "_law_cell"]
theorem sc__law_hand : FnScope N__law_hand ["_law_script"] (defScope s__law_hand) := ⟨rfl, rfl, rfl, by decide +kernel, rfl, by decide +kernel, by decide +kernel⟩

abbrev s__law_pick : Stmt := top 23
abbrev N__law_pick : List Str := ["_law_hand_here", "_law_many", "_law_digit", "_law_mixed"]
theorem sc__law_pick : FnScope N__law_pick ["_law_hand_here", "_law_many"] (defScope s__law_pick) := ⟨rfl, rfl, rfl, by decide +kernel, rfl, by decide +kernel, by decide +kernel⟩

abbrev s__law_of : Stmt := top 24
abbrev N__law_of : List Str := ["_law_hand_here", "_law_some"]
theorem sc__law_of : FnScope N__law_of ["_law_hand_here", "_law_some"] (defScope s__law_of) := ⟨rfl, rfl, rfl, by decide +kernel, rfl, by decide +kernel, by decide +kernel⟩

abbrev s__law_rooms : Stmt := top 25
abbrev N__law_rooms : List Str := ["_law_hand_here", "_law_many", "_law_room"]
theorem sc__law_rooms : FnScope N__law_rooms ["_law_hand_here", "_law_many"] (defScope s__law_rooms) := ⟨rfl, rfl, rfl, by decide +kernel, rfl, by decide +kernel, by decide +kernel⟩

abbrev s__law_by : Stmt := top 26
abbrev N__law_by : List Str := ["_law_hand_here", "_law_kind", "_law_many", "_law_k", "_law_room"]
theorem sc__law_by : FnScope N__law_by ["_law_hand_here", "_law_kind", "_law_many"] (defScope s__law_by) := ⟨rfl, rfl, rfl, by decide +kernel, rfl, by decide +kernel, by decide +kernel⟩

abbrev s__law_hall : Stmt := top 27
abbrev N__law_hall : List Str := ["_law_hand_here", "_law_letters", "_law_upmost", "_law_rooms_here", "_law_kind", "_law_chance", "_law_full", "_law_ways", "_law_room", "_law_letter", "_law_ends", "_law_end"]
theorem sc__law_hall : FnScope N__law_hall ["_law_hand_here", "_law_letters", "_law_upmost"] (defScope s__law_hall) := ⟨rfl, rfl, rfl, by decide +kernel, rfl, by decide +kernel, by decide +kernel⟩

abbrev s_Hall_ends : Stmt := inn 20 1
abbrev N_Hall_ends : List Str := ["self", "room", "letter"]
theorem sc_Hall_ends : FnScope N_Hall_ends ["self", "room", "letter"] (defScope s_Hall_ends) := ⟨rfl, rfl, rfl, by decide +kernel, rfl, by decide +kernel, by decide +kernel⟩

abbrev s_Hall_is_certain : Stmt := inn 20 2
abbrev N_Hall_is_certain : List Str := ["self", "room", "letter"]
theorem sc_Hall_is_certain : FnScope N_Hall_is_certain ["self"] (defScope s_Hall_is_certain) := ⟨rfl, rfl, rfl, by decide +kernel, rfl, by decide +kernel, by decide +kernel⟩

abbrev s_are_rising : Stmt := top 6
abbrev N_are_rising : List Str := ["some", "one", "other"]
theorem sc_are_rising : FnScope N_are_rising ["some"] (defScope s_are_rising) := ⟨rfl, rfl, rfl, by decide +kernel, rfl, by decide +kernel, by decide +kernel⟩

abbrev s_is_whole : Stmt := top 4
abbrev N_is_whole : List Str := ["thing"]
theorem sc_is_whole : FnScope N_is_whole ["thing"] (defScope s_is_whole) := ⟨rfl, rfl, rfl, by decide +kernel, rfl, by decide +kernel, by decide +kernel⟩

abbrev s_is_below : Stmt := top 5
abbrev N_is_below : List Str := ["thing", "many"]
theorem sc_is_below : FnScope N_is_below ["thing", "many"] (defScope s_is_below) := ⟨rfl, rfl, rfl, by decide +kernel, rfl, by decide +kernel, by decide +kernel⟩

abbrev s_are_rising_below : Stmt := top 7
abbrev N_are_rising_below : List Str := ["thing", "many", "one"]
theorem sc_are_rising_below : FnScope N_are_rising_below ["thing", "many"] (defScope s_are_rising_below) := ⟨rfl, rfl, rfl, by decide +kernel, rfl, by decide +kernel, by decide +kernel⟩

abbrev s_are_rooms : Stmt := top 12
abbrev N_are_rooms : List Str := ["rooms", "thing"]
theorem sc_are_rooms : FnScope N_are_rooms ["rooms", "thing"] (defScope s_are_rooms) := ⟨rfl, rfl, rfl, by decide +kernel, rfl, by decide +kernel, by decide +kernel⟩

abbrev s_are_pairs : Stmt := top 11
abbrev N_are_pairs : List Str := ["rooms", "thing", "pair", "part"]
theorem sc_are_pairs : FnScope N_are_pairs ["rooms", "thing"] (defScope s_are_pairs) := ⟨rfl, rfl, rfl, by decide +kernel, rfl, by decide +kernel, by decide +kernel⟩

abbrev s_are_ranks : Stmt := top 13
abbrev N_are_ranks : List Str := ["rooms", "thing", "one"]
theorem sc_are_ranks : FnScope N_are_ranks ["rooms", "thing"] (defScope s_are_ranks) := ⟨rfl, rfl, rfl, by decide +kernel, rfl, by decide +kernel, by decide +kernel⟩

abbrev s_are_ways : Stmt := top 10
abbrev N_are_ways : List Str := ["letters", "rooms", "thing", "way"]
theorem sc_are_ways : FnScope N_are_ways ["letters", "rooms", "thing"] (defScope s_are_ways) := ⟨rfl, rfl, rfl, by decide +kernel, rfl, by decide +kernel, by decide +kernel⟩

abbrev s_fault_of : Stmt := top 16
abbrev N_fault_of : List Str := ["letters", "rooms", "start", "ways", "kind", "by", "looked"]
theorem sc_fault_of : FnScope N_fault_of ["letters", "rooms", "start", "ways", "kind", "by"] (defScope s_fault_of) := ⟨rfl, rfl, rfl, by decide +kernel, rfl, by decide +kernel, by decide +kernel⟩

abbrev s_Hall___init__ : Stmt := inn 20 0
abbrev N_Hall___init__ : List Str := ["self", "letters", "rooms", "start", "ways", "kind", "by", "why", "room", "letter", "end"]
theorem sc_Hall___init__ : FnScope N_Hall___init__ ["self", "letters", "rooms", "start", "ways", "kind", "by"] (defScope s_Hall___init__) := ⟨rfl, rfl, rfl, by decide +kernel, rfl, by decide +kernel, by decide +kernel⟩

abbrev s__law_built : Stmt := top 28
abbrev N__law_built : List Str := ["_law_things", "_law_letters", "_law_rooms_here", "_law_first", "_law_ways", "_law_kind", "_law_by_here"]
theorem sc__law_built : FnScope N__law_built ["_law_things"] (defScope s__law_built) := ⟨rfl, rfl, rfl, by decide +kernel, rfl, by decide +kernel, by decide +kernel⟩

abbrev s__law_right : Stmt := top 29
abbrev N__law_right : List Str := ["_law_things", "_law_letters", "_law_rooms_here", "_law_ways", "_law_hall_here", "_law_counts", "_law_room", "_law_letter", "_law_due", "_law_found", "_law_way"]
theorem sc__law_right : FnScope N__law_right ["_law_things"] (defScope s__law_right) := ⟨rfl, rfl, rfl, by decide +kernel, rfl, by decide +kernel, by decide +kernel⟩

abbrev s_law : Stmt := top 30
abbrev N_law : List Str := ["_law_script", "_law_hand_here", "_law_turn", "_law_letters", "_law_rooms_here", "_law_first", "_law_ways", "_law_kind", "_law_by_here", "_law_spots", "_law_just", "_law_at", "_law_more", "_law_some", "_law_k", "_law_spot"]
theorem sc_law : FnScope N_law ["_law_script"] (defScope s_law) := ⟨rfl, rfl, rfl, by decide +kernel, rfl, by decide +kernel, by decide +kernel⟩

def tab_KINDS : List (Str × U) := [("again", .top "are_rooms"), ("at last", .top "are_rooms"), ("pairs", .top "are_pairs"), ("ranks", .top "are_ranks")]
structure En (w : World) (K : PySem.W.Frag) (mg : Str → Option Value) where
  m_all : mg "all" = none
  m_bool : mg "bool" = none
  m_int : mg "int" = none
  m_isinstance : mg "isinstance" = none
  m_len : mg "len" = none
  m_range : mg "range" = none
  m_repr : mg "repr" = none
  m_set : mg "set" = none
  m_sorted : mg "sorted" = none
  m_str : mg "str" = none
  m_tuple : mg "tuple" = none
  m_zip : mg "zip" = none
  fd__law_hand : FuncData
  F__law_hand : FunD K "_law_hand" "_law_hand" (defArgs s__law_hand) (defBody s__law_hand) (defScope s__law_hand) [] [] (He.ga K "_law_hand") fd__law_hand
  g__law_hand : mg "_law_hand" = some (.ref (He.ga K "_law_hand"))
  b__law_hand : Binds K fd__law_hand ["_law_script"] []
  fd__law_pick : FuncData
  F__law_pick : FunD K "_law_pick" "_law_pick" (defArgs s__law_pick) (defBody s__law_pick) (defScope s__law_pick) [] [] (He.ga K "_law_pick") fd__law_pick
  g__law_pick : mg "_law_pick" = some (.ref (He.ga K "_law_pick"))
  b__law_pick : Binds K fd__law_pick ["_law_hand_here", "_law_many"] []
  fd__law_of : FuncData
  F__law_of : FunD K "_law_of" "_law_of" (defArgs s__law_of) (defBody s__law_of) (defScope s__law_of) [] [] (He.ga K "_law_of") fd__law_of
  g__law_of : mg "_law_of" = some (.ref (He.ga K "_law_of"))
  b__law_of : Binds K fd__law_of ["_law_hand_here", "_law_some"] []
  fd__law_rooms : FuncData
  F__law_rooms : FunD K "_law_rooms" "_law_rooms" (defArgs s__law_rooms) (defBody s__law_rooms) (defScope s__law_rooms) [] [] (He.ga K "_law_rooms") fd__law_rooms
  g__law_rooms : mg "_law_rooms" = some (.ref (He.ga K "_law_rooms"))
  b__law_rooms : Binds K fd__law_rooms ["_law_hand_here", "_law_many"] []
  fd__law_by : FuncData
  F__law_by : FunD K "_law_by" "_law_by" (defArgs s__law_by) (defBody s__law_by) (defScope s__law_by) [] [] (He.ga K "_law_by") fd__law_by
  g__law_by : mg "_law_by" = some (.ref (He.ga K "_law_by"))
  b__law_by : Binds K fd__law_by ["_law_hand_here", "_law_kind", "_law_many"] []
  fd__law_hall : FuncData
  F__law_hall : FunD K "_law_hall" "_law_hall" (defArgs s__law_hall) (defBody s__law_hall) (defScope s__law_hall) [] [] (He.ga K "_law_hall") fd__law_hall
  g__law_hall : mg "_law_hall" = some (.ref (He.ga K "_law_hall"))
  b__law_hall : Binds K fd__law_hall ["_law_hand_here", "_law_letters", "_law_upmost"] []
  fd_Hall_ends : FuncData
  F_Hall_ends : FunD K "ends" "Hall.ends" (defArgs s_Hall_ends) (defBody s_Hall_ends) (defScope s_Hall_ends) [] [] (He.ma K (He.ga K "Hall") "ends") fd_Hall_ends
  me_Hall_ends : Meth K (He.ga K "Hall") "ends" (He.ma K (He.ga K "Hall") "ends")
  b_Hall_ends : Binds K fd_Hall_ends ["self", "room", "letter"] []
  fd_Hall_is_certain : FuncData
  F_Hall_is_certain : FunD K "is_certain" "Hall.is_certain" (defArgs s_Hall_is_certain) (defBody s_Hall_is_certain) (defScope s_Hall_is_certain) [] [] (He.ma K (He.ga K "Hall") "is_certain") fd_Hall_is_certain
  me_Hall_is_certain : Meth K (He.ga K "Hall") "is_certain" (He.ma K (He.ga K "Hall") "is_certain")
  b_Hall_is_certain : Binds K fd_Hall_is_certain ["self"] []
  fd_are_rising : FuncData
  F_are_rising : FunD K "are_rising" "are_rising" (defArgs s_are_rising) (defBody s_are_rising) (defScope s_are_rising) [] [] (He.ga K "are_rising") fd_are_rising
  g_are_rising : mg "are_rising" = some (.ref (He.ga K "are_rising"))
  b_are_rising : Binds K fd_are_rising ["some"] []
  fd_is_whole : FuncData
  F_is_whole : FunD K "is_whole" "is_whole" (defArgs s_is_whole) (defBody s_is_whole) (defScope s_is_whole) [] [] (He.ga K "is_whole") fd_is_whole
  g_is_whole : mg "is_whole" = some (.ref (He.ga K "is_whole"))
  b_is_whole : Binds K fd_is_whole ["thing"] []
  fd_is_below : FuncData
  F_is_below : FunD K "is_below" "is_below" (defArgs s_is_below) (defBody s_is_below) (defScope s_is_below) [] [] (He.ga K "is_below") fd_is_below
  g_is_below : mg "is_below" = some (.ref (He.ga K "is_below"))
  b_is_below : Binds K fd_is_below ["thing", "many"] []
  fd_are_rising_below : FuncData
  F_are_rising_below : FunD K "are_rising_below" "are_rising_below" (defArgs s_are_rising_below) (defBody s_are_rising_below) (defScope s_are_rising_below) [] [] (He.ga K "are_rising_below") fd_are_rising_below
  g_are_rising_below : mg "are_rising_below" = some (.ref (He.ga K "are_rising_below"))
  b_are_rising_below : Binds K fd_are_rising_below ["thing", "many"] []
  fd_are_rooms : FuncData
  F_are_rooms : FunD K "are_rooms" "are_rooms" (defArgs s_are_rooms) (defBody s_are_rooms) (defScope s_are_rooms) [] [] (He.ga K "are_rooms") fd_are_rooms
  g_are_rooms : mg "are_rooms" = some (.ref (He.ga K "are_rooms"))
  b_are_rooms : Binds K fd_are_rooms ["rooms", "thing"] []
  fd_are_pairs : FuncData
  F_are_pairs : FunD K "are_pairs" "are_pairs" (defArgs s_are_pairs) (defBody s_are_pairs) (defScope s_are_pairs) [] [] (He.ga K "are_pairs") fd_are_pairs
  g_are_pairs : mg "are_pairs" = some (.ref (He.ga K "are_pairs"))
  b_are_pairs : Binds K fd_are_pairs ["rooms", "thing"] []
  fd_are_ranks : FuncData
  F_are_ranks : FunD K "are_ranks" "are_ranks" (defArgs s_are_ranks) (defBody s_are_ranks) (defScope s_are_ranks) [] [] (He.ga K "are_ranks") fd_are_ranks
  g_are_ranks : mg "are_ranks" = some (.ref (He.ga K "are_ranks"))
  b_are_ranks : Binds K fd_are_ranks ["rooms", "thing"] []
  fd_are_ways : FuncData
  F_are_ways : FunD K "are_ways" "are_ways" (defArgs s_are_ways) (defBody s_are_ways) (defScope s_are_ways) [] [] (He.ga K "are_ways") fd_are_ways
  g_are_ways : mg "are_ways" = some (.ref (He.ga K "are_ways"))
  b_are_ways : Binds K fd_are_ways ["letters", "rooms", "thing"] []
  fd_fault_of : FuncData
  F_fault_of : FunD K "fault_of" "fault_of" (defArgs s_fault_of) (defBody s_fault_of) (defScope s_fault_of) [] [] (He.ga K "fault_of") fd_fault_of
  g_fault_of : mg "fault_of" = some (.ref (He.ga K "fault_of"))
  b_fault_of : Binds K fd_fault_of ["letters", "rooms", "start", "ways", "kind", "by"] []
  fd_Hall___init__ : FuncData
  F_Hall___init__ : FunD K "__init__" "Hall.__init__" (defArgs s_Hall___init__) (defBody s_Hall___init__) (defScope s_Hall___init__) [] [] (He.ma K (He.ga K "Hall") "__init__") fd_Hall___init__
  b_Hall___init__ : Binds K fd_Hall___init__ ["self", "letters", "rooms", "start", "ways", "kind", "by"] []
  fd__law_built : FuncData
  F__law_built : FunD K "_law_built" "_law_built" (defArgs s__law_built) (defBody s__law_built) (defScope s__law_built) [] [] (He.ga K "_law_built") fd__law_built
  g__law_built : mg "_law_built" = some (.ref (He.ga K "_law_built"))
  b__law_built : Binds K fd__law_built ["_law_things"] []
  fd__law_right : FuncData
  F__law_right : FunD K "_law_right" "_law_right" (defArgs s__law_right) (defBody s__law_right) (defScope s__law_right) [] [] (He.ga K "_law_right") fd__law_right
  g__law_right : mg "_law_right" = some (.ref (He.ga K "_law_right"))
  b__law_right : Binds K fd__law_right ["_law_things"] []
  fd_law : FuncData
  F_law : FunD K "law" "law" (defArgs s_law) (defBody s_law) (defScope s_law) [] [] (He.ga K "law") fd_law
  g_law : mg "law" = some (.ref (He.ga K "law"))
  b_law : Binds K fd_law ["_law_script"] []
  cl_Hall : Cls K (He.ga K "Hall")
  mk_Hall : Mk K (He.ga K "Hall") (He.ma K (He.ga K "Hall") "__init__")
  g_Hall : mg "Hall" = some (.ref (He.ga K "Hall"))
  hf_letters : ∀ c ∈ (["Hall"] : List Str), Cls K (He.ga K c) ∧ NoAttr K (He.ga K c) "letters"
  hf_rooms : ∀ c ∈ (["Hall"] : List Str), Cls K (He.ga K c) ∧ NoAttr K (He.ga K c) "rooms"
  hf_start : ∀ c ∈ (["Hall"] : List Str), Cls K (He.ga K c) ∧ NoAttr K (He.ga K c) "start"
  hf_ways : ∀ c ∈ (["Hall"] : List Str), Cls K (He.ga K c) ∧ NoAttr K (He.ga K c) "ways"
  hf_kind : ∀ c ∈ (["Hall"] : List Str), Cls K (He.ga K c) ∧ NoAttr K (He.ga K c) "kind"
  hf_by : ∀ c ∈ (["Hall"] : List Str), Cls K (He.ga K c) ∧ NoAttr K (He.ga K c) "by"
  hf_goals : ∀ c ∈ (["Hall"] : List Str), Cls K (He.ga K c) ∧ NoAttr K (He.ga K c) "goals"
  g_KINDS : mg "KINDS" = some (.ref (He.ga K "KINDS"))
  T_KINDS : TabF K (He.ga K) w (He.ga K "KINDS") tab_KINDS
  t_MOST_LETTERS : Tok
  k_MOST_LETTERS : mg "MOST_LETTERS" = some (.int 4 t_MOST_LETTERS)

noncomputable def m__law_hand (script_1 : U) : M U := fnM (.bind (.ret (.int 23)) fun seed_2 => (seqO (S := U) (.bind (itW (slW (.ret script_1) noP (someP (.ret (.int 63))))) fun us => forO (fun cell_4 s_3 => (.bind (op2 modU (op2 addU (op2 addU (op2 mulU (.ret s_3) (.ret (.int 6364136223846793))) (op2 modU (.ret cell_4) (.ret (.int 2305843009213693951)))) (.ret (.int 31))) (.ret (.int 2305843009213693951))) fun seed_5 => (nxO seed_5))) us seed_2) fun s_3 => (rtO (.bind (lstW (consA (.bind (lcW (itW (slW (.ret script_1) noP (someP (.ret (.int 63))))) (fun cell_6 => (testW (op2 geU (.ret cell_6) (op2 powU (.ret (.int 10)) (.ret (.int 18)))))) fun cell_6 => (.ret cell_6)) fun u => .o (flatO u)) (consA (.bind (.ret s_3) fun u => .o (leafO u)) nilA))) fun u => .bind (.o (lstO u)) allocM))))
theorem w__law_hand {P : Program} {w : World} {K : PySem.W.Frag} {mg : Str → Option Value} {bs : Heap} (N : En w K mg) : FnOk P w K mg bs CX0 1 (He.ga K "_law_hand") N.fd__law_hand ["_law_script"] (spM ⟨K, He.ga K⟩ (L1 m__law_hand)) :=
  fn_okF N.F__law_hand sc__law_hand (ar1 fun _ => rfl) fun cv A o s H E hr => ⟨_, PSs.nox (pss_cons (ps_set (i := 1) sc__law_hand.nd rfl (.inl rfl) pe_int)
 (pss_cons (ps_for PassesOwn.never rfl (pi_seqK K (pe_slice (sl_seqK K) (pv 0) po_none (po_some pe_int))) (pg_name (i := 2) sc__law_hand.nd rfl (.inl rfl))
 (pss_one (ps_set (i := 1) sc__law_hand.nd rfl (.inl rfl) (pe_op op_modN (pe_op (op_addK K) (pe_op (op_addK K) (pe_op (op_mulK K) (pv 1) pe_int) (pe_op op_modN (pv 2) pe_int)) pe_int) pe_int))))
 (pss_one (ps_ret (pe_lst (pa_cons (pe_lc (own := [("_law_cell", 2)]) (by rfl) sc__law_hand.nd (pi_seqK K (pe_slice (sl_seqK K) (pv 0) po_none (po_some pe_int))) (blkOk_by (own := [("_law_cell", 2)]) (N := N__law_hand) (sc := defScope s__law_hand) (by decide +kernel)) (fun _ _ _ _ _ => (pg_name (i := 2) sc__law_hand.nd rfl (.inl rfl))) (fun _ _ _ _ _ => (pts_one (pt_cmpR op_ge (pv 2) (pe_op op_pow pe_int pe_int) (nomark _)))) (fun _ _ _ _ _ => (pv 2))) (pa_cons (pv 1) pa_nil))))))),
   fun B H0 as0 => ar1 fun script_1 => ⟨_, rfl,
 (blk_set (i := 1) ev_int fun seed_2 =>
 (blk_seq (blk_forL (S := U) [2] [2] (fun s_3 => [some (.im script_1), some (.im s_3), none]) (by rfl) (src_it (ev_sl (EvW.r (ev_var (i := 0) rfl)) eo_none (eo_some (EvW.r ev_int))))
 (fun s_3 cell_4 st r q => ⟨_, tg_name (by decide), (blk_last (blk_set (i := 1) (ev_op ok_mod (EvW.r (ev_op ok_add (EvW.r (ev_op ok_add (EvW.r (ev_op ok_mul (EvW.r (ev_var (i := 1) rfl)) (EvW.r ev_int))) (EvW.r (ev_op ok_mod (EvW.r (ev_var (i := 2) rfl)) (EvW.r ev_int))))) (EvW.r ev_int))) (EvW.r ev_int)) fun seed_5 =>
 (blk_fin [2] (by rfl))))⟩)) fun s_3 =>
 (blk_retC (enf_lst (eanf_cons (enf_flat (en_lc (by rfl) (src_it (ev_sl (EvW.r (ev_var (i := 0) rfl)) eo_none (eo_some (EvW.r ev_int)))) fun cell_6 st r q => ⟨_, tg_name (by decide), (et_test (EvW.r (ev_op ok_ge (EvW.r (ev_var (i := 2) rfl)) (EvW.r (ev_op ok_pow (EvW.r ev_int) (EvW.r ev_int)))))), (ev_var (i := 2) rfl)⟩)) (eanf_cons (enf_leaf (ev_var (i := 1) rfl)) eanf_nil))))))⟩⟩

noncomputable def m__law_pick (hand_here_1 many_2 : U) : M U := fnM (seqO (S := Unit) (whileO (fun s_3 => (andT (testW (.bind (.bind (.bind (.ret hand_here_1) locM) fun c => .bind (.ret (.int 0)) fun n => .o (ixC c n)) fun c => .o (neU c.2.1 (.lst [])))) (testW (op2 eqU (.bind (.bind (.bind (.bind (.ret hand_here_1) locM) fun c => .bind (.ret (.int 0)) fun n => .o (ixC c n)) fun c => .bind (.ret (.int 0)) fun n => .o (ixC c n)) fun c => .o (valC c)) (.ret (.int 0)))))) (fun s_3 => (.bind (.bind (.bind (.ret hand_here_1) locM) fun c => .bind (.ret (.int 0)) fun n => .o (ixC c n)) fun c => .bind (.ret (.int 0)) fun n => .bind (.o (mutC popAtL c [n])) fun d => .bind (putC d.2.1 d.2.2.1) fun _ => (nxO ()))) ()) fun s_3 => (seqO (S := Unit) (iteW (testW (.bind (.bind (.bind (.ret hand_here_1) locM) fun c => .bind (.ret (.int 0)) fun n => .o (ixC c n)) fun c => .o (neU c.2.1 (.lst [])))) (.bind (op2 modU (.bind (.bind (.bind (.bind (.ret hand_here_1) locM) fun c => .bind (.ret (.int 0)) fun n => .o (ixC c n)) fun c => .bind (.ret (.int 0)) fun n => .o (ixC c n)) fun c => .o (valC c)) (.ret many_2)) fun digit_5 => (.bind (op2 fdivU (.bind (.bind (.bind (.bind (.ret hand_here_1) locM) fun c => .bind (.ret (.int 0)) fun n => .o (ixC c n)) fun c => .bind (.ret (.int 0)) fun n => .o (ixC c n)) fun c => .o (valC c)) (.ret many_2)) fun x => .bind (.bind (.bind (.ret hand_here_1) locM) fun c => .bind (.ret (.int 0)) fun n => .o (ixC c n)) fun c => .bind (.ret (.int 0)) fun n => .bind (.o (setItC c n x)) fun d => .bind (putC d.1 d.2.1) fun _ => (rtO (.ret digit_5)))) (nxO ())) fun s_4 => (.bind (op2 modU (op2 addU (op2 mulU (.bind (.bind (.bind (.ret hand_here_1) locM) fun c => .bind (.ret (.int 1)) fun n => .o (ixC c n)) fun c => .o (valC c)) (.ret (.int 3935559000370003))) (.ret (.int 2691343689449507))) (.ret (.int 2305843009213693951))) fun x => .bind (.bind (.ret hand_here_1) locM) fun c => .bind (.ret (.int 1)) fun n => .bind (.o (setItC c n x)) fun d => .bind (putC d.1 d.2.1) fun _ => (.bind (op2 fdivU (.bind (.bind (.bind (.ret hand_here_1) locM) fun c => .bind (.ret (.int 1)) fun n => .o (ixC c n)) fun c => .o (valC c)) (.ret (.int 65537))) fun mixed_6 => (rtO (op2 modU (op2 fdivU (op2 modU (op2 mulU (.ret mixed_6) (op2 addU (op2 modU (.ret mixed_6) (.ret (.int 8191))) (.ret (.int 3)))) (.ret (.int 2305843009213693921))) (.ret (.int 4099))) (.ret many_2)))))))
theorem w__law_pick {P : Program} {w : World} {K : PySem.W.Frag} {mg : Str → Option Value} {bs : Heap} (N : En w K mg) : FnOk P w K mg bs CX0 1 (He.ga K "_law_pick") N.fd__law_pick ["_law_hand_here", "_law_many"] (spM ⟨K, He.ga K⟩ (L2' m__law_pick)) :=
  fn_okF N.F__law_pick sc__law_pick (ar2 fun _ _ => rfl) fun cv A o s H E hr => ⟨_, PSs.nox (pss_cons (ps_while PassesOwn.never (PW.pt (pw_and (pt_cmpR (op_neK K hr.units) (pe_ix (ix_seqK K) (pv 0) pe_int (fun _ _ => rfl)) (pe_lst pa_nil) (nomark _)) (pw_and1 (pt_cmpR (op_eqK K hr.units) (pe_ix (ix_seqK K) (pe_ix (ix_seqK K) (pv 0) pe_int (fun _ _ => rfl)) pe_int (fun _ _ => rfl)) pe_int (nomark _)))))
 (pss_one (ps_expr (pe_bm PySem.F.plainAttrs_list PySem.F.slot_list_pop PySem.F.type_list_pop mt_popAt (pe_ix (ix_seqK K) (pv 0) pe_int (fun _ _ => rfl)) (pa_cons pe_int pa_nil)))))
 (pss_cons (ps_if (pt_cmpR (op_neK K hr.units) (pe_ix (ix_seqK K) (pv 0) pe_int (fun _ _ => rfl)) (pe_lst pa_nil) (nomark _))
 (pss_cons (ps_set (i := 2) sc__law_pick.nd rfl (.inl rfl) (pe_op op_modN (pe_ix (ix_seqK K) (pe_ix (ix_seqK K) (pv 0) pe_int (fun _ _ => rfl)) pe_int (fun _ _ => rfl)) (pv 1)))
 (pss_cons (ps_asg (pe_op op_fdivN (pe_ix (ix_seqK K) (pe_ix (ix_seqK K) (pv 0) pe_int (fun _ _ => rfl)) pe_int (fun _ _ => rfl)) (pv 1)) (pg_sub (pe_ix (ix_seqK K) (pv 0) pe_int (fun _ _ => rfl)) pe_int set_list))
 (pss_one (ps_ret (pv 2)))))
 pss_nil)
 (pss_cons (ps_asg (pe_op op_modN (pe_op (op_addK K) (pe_op (op_mulK K) (pe_ix (ix_seqK K) (pv 0) pe_int (fun _ _ => rfl)) pe_int) pe_int) pe_int) (pg_sub (pv 0) pe_int set_list))
 (pss_cons (ps_set (i := 3) sc__law_pick.nd rfl (.inl rfl) (pe_op op_fdivN (pe_ix (ix_seqK K) (pv 0) pe_int (fun _ _ => rfl)) pe_int))
 (pss_one (ps_ret (pe_op op_modN (pe_op op_fdivN (pe_op op_modN (pe_op (op_mulK K) (pv 3) (pe_op (op_addK K) (pe_op op_modN (pv 3) pe_int) pe_int)) pe_int) pe_int) (pv 1)))))))),
   fun B H0 as0 => ar2 fun hand_here_1 many_2 => ⟨_, rfl,
 (blk_seq (blk_whileL (S := Unit) [] (fun s_3 => [some (.im hand_here_1), some (.im many_2), none, none]) (by rfl) (fun s_3 => (et_and (et_test (EvW.r (ev_neC (ec_ix (ec_loc (ev_var (i := 0) rfl)) eq_int)))) (et_test (EvW.r (ev_op ok_eq (EvW.r (ev_cell (r := false) (ec_ix (ec_ix (ec_loc (ev_var (i := 0) rfl)) eq_int) eq_int))) (EvW.r ev_int))))))
 (fun s_3 => (blk_last (blk_mutC mut_popAt (ec_ix (ec_loc (ev_var (i := 0) rfl)) eq_int) eq_int
 (blk_fin [] (by rfl)))))) fun s_3 =>
 (blk_seq (blk_ifL (S := Unit) (fun s_4 => [some (.im hand_here_1), some (.im many_2), none, none]) (et_test (EvW.r (ev_neC (ec_ix (ec_loc (ev_var (i := 0) rfl)) eq_int))))
 (blk_set (i := 2) (ev_op ok_mod (EvW.r (ev_cell (r := false) (ec_ix (ec_ix (ec_loc (ev_var (i := 0) rfl)) eq_int) eq_int))) (EvW.r (ev_var (i := 1) rfl))) fun digit_5 =>
 (blk_setC (ev_op ok_fdiv (EvW.r (ev_cell (r := false) (ec_ix (ec_ix (ec_loc (ev_var (i := 0) rfl)) eq_int) eq_int))) (EvW.r (ev_var (i := 1) rfl))) (ec_ix (ec_loc (ev_var (i := 0) rfl)) eq_int) eq_int
 (blk_ret (EvW.f (ev_var (i := 2) rfl)))))
 (blk_fin [2] (by rfl))) fun s_4 =>
 (blk_setC (ev_op ok_mod (EvW.r (ev_op ok_add (EvW.r (ev_op ok_mul (EvW.r (ev_cell (r := false) (ec_ix (ec_loc (ev_var (i := 0) rfl)) eq_int))) (EvW.r ev_int))) (EvW.r ev_int))) (EvW.r ev_int)) (ec_loc (ev_var (i := 0) rfl)) eq_int
 (blk_set (i := 3) (ev_op ok_fdiv (EvW.r (ev_cell (r := false) (ec_ix (ec_loc (ev_var (i := 0) rfl)) eq_int))) (EvW.r ev_int)) fun mixed_6 =>
 (blk_ret (EvW.f (ev_op ok_mod (EvW.r (ev_op ok_fdiv (EvW.r (ev_op ok_mod (EvW.r (ev_op ok_mul (EvW.r (ev_var (i := 3) rfl)) (EvW.r (ev_op ok_add (EvW.r (ev_op ok_mod (EvW.r (ev_var (i := 3) rfl)) (EvW.r ev_int))) (EvW.r ev_int))))) (EvW.r ev_int))) (EvW.r ev_int))) (EvW.r (ev_var (i := 1) rfl)))))))))⟩⟩

noncomputable def m__law_of (hand_here_1 some_2 : U) : M U := fnM (rtO (op2 ixU (.ret some_2) (callM (L2' m__law_pick) (consA (.ret hand_here_1) (consA (op1 lenU (.ret some_2)) nilA)))))
theorem w__law_of {P : Program} {w : World} {K : PySem.W.Frag} {mg : Str → Option Value} {bs : Heap} (N : En w K mg) : FnOk P w K mg bs CX0 2 (He.ga K "_law_of") N.fd__law_of ["_law_hand_here", "_law_some"] (spM ⟨K, He.ga K⟩ (L2' m__law_of)) :=
  fn_okF N.F__law_of sc__law_of (ar2 fun _ _ => rfl) fun cv A o s H E hr => ⟨_, PSs.nox (pss_one (ps_ret (pe_ix (ix_seqK K) (pv 1) (pe_call (w__law_pick N) (hr.mono (by decide)) (by rfl) N.g__law_pick N.F__law_pick.kp N.b__law_pick .nil pass0 (pa_cons (pv 0) (pa_cons (pe_callB (call_lenK K) (by rfl) N.m_len PySem.boot_len (pa_cons (pv 1) pa_nil)) pa_nil))) (fun _ _ => rfl)))),
   fun B H0 as0 => ar2 fun hand_here_1 some_2 => ⟨_, rfl,
 (blk_ret (EvW.f (ev_op ok_ix (EvW.r (ev_var (i := 1) rfl)) (EvW.r (ev_call (ea_cons (ev_var (i := 0) rfl) (ea_cons (ev_cb1 ok_len (EvW.r (ev_var (i := 1) rfl))) ea_nil)))))))⟩⟩

noncomputable def m__law_rooms (hand_here_1 many_2 : U) : M U := fnM (rtO (op1 tupleU (lcW (rng1W (.ret many_2)) (fun room_3 => (testW (op2 eqU (callM (L2' m__law_pick) (consA (.ret hand_here_1) (consA (.ret (.int 2)) nilA))) (.ret (.int 0))))) fun room_3 => (.ret room_3))))
theorem w__law_rooms {P : Program} {w : World} {K : PySem.W.Frag} {mg : Str → Option Value} {bs : Heap} (N : En w K mg) : FnOk P w K mg bs CX0 2 (He.ga K "_law_rooms") N.fd__law_rooms ["_law_hand_here", "_law_many"] (spM ⟨K, He.ga K⟩ (L2' m__law_rooms)) :=
  fn_okF N.F__law_rooms sc__law_rooms (ar2 fun _ _ => rfl) fun cv A o s H E hr => ⟨_, PSs.nox (pss_one (ps_ret (pe_callTy (call_tupleK K) (by rfl) N.m_tuple (by decide +kernel) (pa_cons (pe_lc (own := [("_law_room", 2)]) (by rfl) sc__law_rooms.nd (pi_range1 (by rfl) N.m_range (pa_cons (pv 1) pa_nil)) (blkOk_by (own := [("_law_room", 2)]) (N := N__law_rooms) (sc := defScope s__law_rooms) (by decide +kernel)) (fun _ _ _ _ _ => (pg_name (i := 2) sc__law_rooms.nd rfl (.inl rfl))) (fun _ _ _ _ _ => (pts_one (pt_cmpR (op_eqK K hr.units) (pe_call (w__law_pick N) (hr.mono (by decide)) (by rfl) N.g__law_pick N.F__law_pick.kp N.b__law_pick .nil pass0 (pa_cons (pv 0) (pa_cons pe_int pa_nil))) pe_int (nomark _)))) (fun _ _ _ _ _ => (pv 2))) pa_nil)))),
   fun B H0 as0 => ar2 fun hand_here_1 many_2 => ⟨_, rfl,
 (blk_ret (EvW.f (ev_cb1 ok_tuple (EvW.r (EvN.ew (en_lc (by rfl) (src_range1 (EvW.r (ev_var (i := 1) rfl))) fun room_3 st r q => ⟨_, tg_name (by decide), (et_test (EvW.r (ev_op ok_eq (EvW.r (ev_call (ea_cons (ev_var (i := 0) rfl) (ea_cons ev_int ea_nil)))) (EvW.r ev_int)))), (ev_var (i := 2) rfl)⟩))))))⟩⟩

noncomputable def m__law_by (hand_here_1 kind_2 many_3 : U) : M U := fnM (seqO (S := Unit) (iteW (testW (op2 eqU (.ret kind_2) (.ret (.str "pairs")))) (rtO (op1 tupleU (lcW (rng1W (callM (L2' m__law_pick) (consA (.ret hand_here_1) (consA (.ret (.int 4)) nilA)))) (fun k_5 => (.ret true)) fun k_5 => (tupW (consA (callM (L2' m__law_rooms) (consA (.ret hand_here_1) (consA (.ret many_3) nilA))) (consA (callM (L2' m__law_rooms) (consA (.ret hand_here_1) (consA (.ret many_3) nilA))) nilA)))))) (nxO ())) fun s_4 => (seqO (S := Unit) (iteW (testW (op2 eqU (.ret kind_2) (.ret (.str "ranks")))) (rtO (op1 tupleU (lcW (rng1W (.ret many_3)) (fun room_8 => (.ret true)) fun room_8 => (callM (L2' m__law_pick) (consA (.ret hand_here_1) (consA (.ret (.int 6)) nilA)))))) (nxO ())) fun s_7 => (rtO (callM (L2' m__law_rooms) (consA (.ret hand_here_1) (consA (.ret many_3) nilA))))))
theorem w__law_by {P : Program} {w : World} {K : PySem.W.Frag} {mg : Str → Option Value} {bs : Heap} (N : En w K mg) : FnOk P w K mg bs CX0 3 (He.ga K "_law_by") N.fd__law_by ["_law_hand_here", "_law_kind", "_law_many"] (spM ⟨K, He.ga K⟩ (L3 m__law_by)) :=
  fn_okF N.F__law_by sc__law_by (ar3 fun _ _ _ => rfl) fun cv A o s H E hr => ⟨_, PSs.nox (pss_cons (ps_if (pt_cmpR (op_eqK K hr.units) (pv 1) pe_str (nomark _))
 (pss_one (ps_ret (pe_callTy (call_tupleK K) (by rfl) N.m_tuple (by decide +kernel) (pa_cons (pe_lc (own := [("_law_k", 3)]) (by rfl) sc__law_by.nd (pi_range1 (by rfl) N.m_range (pa_cons (pe_call (w__law_pick N) (hr.mono (by decide)) (by rfl) N.g__law_pick N.F__law_pick.kp N.b__law_pick .nil pass0 (pa_cons (pv 0) (pa_cons pe_int pa_nil))) pa_nil)) (blkOk_by (own := [("_law_k", 3)]) (N := N__law_by) (sc := defScope s__law_by) (by decide +kernel)) (fun _ _ _ _ _ => (pg_name (i := 3) sc__law_by.nd rfl (.inl rfl))) (fun _ _ _ _ _ => pts_nil) (fun _ _ _ _ _ => (pe_tup (pa_cons (pe_call (w__law_rooms N) (hr.mono (by decide)) (by rfl) N.g__law_rooms N.F__law_rooms.kp N.b__law_rooms .nil pass0 (pa_cons (pv 0) (pa_cons (pv 2) pa_nil))) (pa_cons (pe_call (w__law_rooms N) (hr.mono (by decide)) (by rfl) N.g__law_rooms N.F__law_rooms.kp N.b__law_rooms .nil pass0 (pa_cons (pv 0) (pa_cons (pv 2) pa_nil))) pa_nil))))) pa_nil))))
 pss_nil)
 (pss_cons (ps_if (pt_cmpR (op_eqK K hr.units) (pv 1) pe_str (nomark _))
 (pss_one (ps_ret (pe_callTy (call_tupleK K) (by rfl) N.m_tuple (by decide +kernel) (pa_cons (pe_lc (own := [("_law_room", 4)]) (by rfl) sc__law_by.nd (pi_range1 (by rfl) N.m_range (pa_cons (pv 2) pa_nil)) (blkOk_by (own := [("_law_room", 4)]) (N := N__law_by) (sc := defScope s__law_by) (by decide +kernel)) (fun _ _ _ _ _ => (pg_name (i := 4) sc__law_by.nd rfl (.inl rfl))) (fun _ _ _ _ _ => pts_nil) (fun _ _ _ _ _ => (pe_call (w__law_pick N) (hr.mono (by decide)) (by rfl) N.g__law_pick N.F__law_pick.kp N.b__law_pick .nil pass0 (pa_cons (pv 0) (pa_cons pe_int pa_nil))))) pa_nil))))
 pss_nil)
 (pss_one (ps_ret (pe_call (w__law_rooms N) (hr.mono (by decide)) (by rfl) N.g__law_rooms N.F__law_rooms.kp N.b__law_rooms .nil pass0 (pa_cons (pv 0) (pa_cons (pv 2) pa_nil))))))),
   fun B H0 as0 => ar3 fun hand_here_1 kind_2 many_3 => ⟨_, rfl,
 (blk_seq (blk_ifL (S := Unit) (fun s_4 => [some (.im hand_here_1), some (.im kind_2), some (.im many_3), none, none]) (et_test (EvW.r (ev_op ok_eq (EvW.r (ev_var (i := 1) rfl)) (EvW.r ev_str))))
 (blk_ret (EvW.f (ev_cb1 ok_tuple (EvW.r (EvN.ew (en_lc (by rfl) (src_range1 (EvW.r (ev_call (ea_cons (ev_var (i := 0) rfl) (ea_cons ev_int ea_nil))))) fun k_5 st r q => ⟨_, tg_name (by decide), et_yes, (ev_tup (ea_cons (ev_call (ea_cons (ev_var (i := 0) rfl) (ea_cons (ev_var (i := 2) rfl) ea_nil))) (ea_cons (ev_call (ea_cons (ev_var (i := 0) rfl) (ea_cons (ev_var (i := 2) rfl) ea_nil))) ea_nil)))⟩))))))
 (blk_fin [] (by rfl))) fun s_4 =>
 (blk_seq (blk_ifL (S := Unit) (fun s_7 => [some (.im hand_here_1), some (.im kind_2), some (.im many_3), none, none]) (et_test (EvW.r (ev_op ok_eq (EvW.r (ev_var (i := 1) rfl)) (EvW.r ev_str))))
 (blk_ret (EvW.f (ev_cb1 ok_tuple (EvW.r (EvN.ew (en_lc (by rfl) (src_range1 (EvW.r (ev_var (i := 2) rfl))) fun room_8 st r q => ⟨_, tg_name (by decide), et_yes, (ev_call (ea_cons (ev_var (i := 0) rfl) (ea_cons ev_int ea_nil)))⟩))))))
 (blk_fin [] (by rfl))) fun s_7 =>
 (blk_ret (EvW.f (ev_call (ea_cons (ev_var (i := 0) rfl) (ea_cons (ev_var (i := 2) rfl) ea_nil)))))))⟩⟩

noncomputable def m__law_hall (hand_here_1 letters_2 upmost_3 : U) : M U := fnM (.bind (op2 addU (.ret (.int 1)) (callM (L2' m__law_pick) (consA (.ret hand_here_1) (consA (.ret upmost_3) nilA)))) fun rooms_here_4 => (.bind (callM (L2' m__law_of) (consA (.ret hand_here_1) (consA (lstW (consA (.ret (.str "again")) (consA (.ret (.str "at last")) (consA (.ret (.str "pairs")) (consA (.ret (.str "ranks")) nilA))))) nilA))) fun kind_5 => (.bind (tupW (consA (op2 addU (.ret (.int 2)) (callM (L2' m__law_pick) (consA (.ret hand_here_1) (consA (.ret (.int 4)) nilA)))) (consA (callM (L2' m__law_pick) (consA (.ret hand_here_1) (consA (.ret (.int 3)) nilA))) (consA (lstW nilA) nilA)))) fun u_27 => un3 u_27 fun chance_6 full_7 ways_8 => (seqO (S := U) (.bind (rng1W (.ret rooms_here_4)) fun us => forO (fun room_10 s_9 => (seqO (S := U) (.bind (rng1W (.ret letters_2)) fun us => forO (fun letter_12 s_11 => (.bind (lcW (rng1W (.ret rooms_here_4)) (fun end_16 => (testW (op2 eqU (callM (L2' m__law_pick) (consA (.ret hand_here_1) (consA (.ret chance_6) nilA))) (.ret (.int 0))))) fun end_16 => (.ret end_16)) fun ends_15 => (seqO (S := U) (iteW (orT (testW (op2 eqU (.ret full_7) (.ret (.int 2)))) (andT (testW (op2 eqU (.ret full_7) (.ret (.int 1)))) (testW (op2 eqU (.ret ends_15) (lstW nilA))))) (.bind (lstW (consA (callM (L2' m__law_pick) (consA (.ret hand_here_1) (consA (.ret rooms_here_4) nilA))) nilA)) fun ends_19 => (nxO ends_19)) (nxO ends_15)) fun s_18 => (.bind (op2 addU (.ret s_11) (lcW (itW (.ret s_18)) (fun end_23 => (.ret true)) fun end_23 => (tupW (consA (.ret room_10) (consA (.ret letter_12) (consA (.ret end_23) nilA)))))) fun ways_22 => (nxO ways_22))))) us s_9) fun s_11 => (nxO s_11))) us ways_8) fun s_9 => (rtO (tupW (consA (.ret letters_2) (consA (.ret rooms_here_4) (consA (callM (L2' m__law_pick) (consA (.ret hand_here_1) (consA (.ret rooms_here_4) nilA))) (consA (op1 tupleU (.ret s_9)) (consA (.ret kind_5) (consA (callM (L3 m__law_by) (consA (.ret hand_here_1) (consA (.ret kind_5) (consA (.ret rooms_here_4) nilA)))) nilA))))))))))))
theorem w__law_hall {P : Program} {w : World} {K : PySem.W.Frag} {mg : Str → Option Value} {bs : Heap} (N : En w K mg) : FnOk P w K mg bs CX0 4 (He.ga K "_law_hall") N.fd__law_hall ["_law_hand_here", "_law_letters", "_law_upmost"] (spM ⟨K, He.ga K⟩ (L3 m__law_hall)) :=
  fn_okF N.F__law_hall sc__law_hall (ar3 fun _ _ _ => rfl) fun cv A o s H E hr => ⟨_, PSs.nox (pss_cons (ps_par (i := 3) (j := 4) (by rfl) sc__law_hall.nd rfl rfl (by decide) rfl rfl (pa_cons (pe_op (op_addK K) pe_int (pe_call (w__law_pick N) (hr.mono (by decide)) (by rfl) N.g__law_pick N.F__law_pick.kp N.b__law_pick .nil pass0 (pa_cons (pv 0) (pa_cons (pv 2) pa_nil)))) (pa_cons (pe_call (w__law_of N) (hr.mono (by decide)) (by rfl) N.g__law_of N.F__law_of.kp N.b__law_of .nil pass0 (pa_cons (pv 0) (pa_cons (pe_lst (pa_cons pe_str (pa_cons pe_str (pa_cons pe_str (pa_cons pe_str pa_nil))))) pa_nil))) pa_nil)) (by rfl))
 (pss_cons (ps_asg (pe_tup (pa_cons (pe_op (op_addK K) pe_int (pe_call (w__law_pick N) (hr.mono (by decide)) (by rfl) N.g__law_pick N.F__law_pick.kp N.b__law_pick .nil pass0 (pa_cons (pv 0) (pa_cons pe_int pa_nil)))) (pa_cons (pe_call (w__law_pick N) (hr.mono (by decide)) (by rfl) N.g__law_pick N.F__law_pick.kp N.b__law_pick .nil pass0 (pa_cons (pv 0) (pa_cons pe_int pa_nil))) (pa_cons (pe_lst pa_nil) pa_nil)))) (pg_tup rfl (pgs_cons (pg_name (i := 5) sc__law_hall.nd rfl (.inr rfl)) (pgs_cons (pg_name (i := 6) sc__law_hall.nd rfl (.inl rfl)) (pgs_cons (pg_name (i := 7) sc__law_hall.nd rfl (.inl rfl)) pgs_nil)))))
 (pss_cons (ps_for PassesOwn.never rfl (pi_range1 (by rfl) N.m_range (pa_cons (pv 3) pa_nil)) (pg_name (i := 8) sc__law_hall.nd rfl (.inr rfl))
 (pss_one (ps_for PassesOwn.never rfl (pi_range1 (by rfl) N.m_range (pa_cons (pv 1) pa_nil)) (pg_name (i := 9) sc__law_hall.nd rfl (.inr rfl))
 (pss_cons (ps_setLc (i := 10) (own := [("_law_end", 11)]) (by rfl) sc__law_hall.nd rfl rfl (sw_true rfl rfl rfl (by decide +kernel)) (pi_range1 (by rfl) N.m_range (pa_cons (pv 3) pa_nil)) (blkOk_by (own := [("_law_end", 11)]) (N := N__law_hall) (sc := defScope s__law_hall) (by decide +kernel)) (fun _ _ _ _ _ => (pg_name (i := 11) sc__law_hall.nd rfl (.inl rfl))) (fun _ _ _ _ _ => (pts_one (pt_cmpR (op_eqK K hr.units) (pe_call (w__law_pick N) (hr.mono (by decide)) (by rfl) N.g__law_pick N.F__law_pick.kp N.b__law_pick .nil pass0 (pa_cons (pv 0) (pa_cons (pv 5) pa_nil))) pe_int (nomark _)))) (fun _ _ _ _ _ => (pv 11)))
 (pss_cons (ps_if (PW.pt (pw_or (pt_cmpR (op_eqK K hr.units) (pv 6) pe_int (nomark _)) (pw_or1 (PW.pt (pw_and (pt_cmpR (op_eqK K hr.units) (pv 6) pe_int (nomark _)) (pw_and1 (pt_cmpR (op_eqK K hr.units) (pv 10) (pe_lst pa_nil) (nomark _))))))))
 (pss_one (ps_set (i := 10) sc__law_hall.nd rfl (.inl rfl) (pe_lst (pa_cons (pe_call (w__law_pick N) (hr.mono (by decide)) (by rfl) N.g__law_pick N.F__law_pick.kp N.b__law_pick .nil pass0 (pa_cons (pv 0) (pa_cons (pv 3) pa_nil))) pa_nil))))
 pss_nil)
 (pss_one (ps_set (i := 7) sc__law_hall.nd rfl (.inl rfl) (pe_op (op_addK K) (pv 7) (pe_lc (own := [("_law_end", 11)]) (by rfl) sc__law_hall.nd (pi_seqK K (pv 10)) (blkOk_by (own := [("_law_end", 11)]) (N := N__law_hall) (sc := defScope s__law_hall) (by decide +kernel)) (fun _ _ _ _ _ => (pg_name (i := 11) sc__law_hall.nd rfl (.inl rfl))) (fun _ _ _ _ _ => pts_nil) (fun _ _ _ _ _ => (pe_tup (pa_cons (pv 8) (pa_cons (pv 9) (pa_cons (pv 11) pa_nil))))))))))))))
 (pss_one (ps_ret (pe_tup (pa_cons (pv 1) (pa_cons (pv 3) (pa_cons (pe_call (w__law_pick N) (hr.mono (by decide)) (by rfl) N.g__law_pick N.F__law_pick.kp N.b__law_pick .nil pass0 (pa_cons (pv 0) (pa_cons (pv 3) pa_nil))) (pa_cons (pe_callTy (call_tupleK K) (by rfl) N.m_tuple (by decide +kernel) (pa_cons (pv 7) pa_nil)) (pa_cons (pv 4) (pa_cons (pe_call (w__law_by N) (hr.mono (by decide)) (by rfl) N.g__law_by N.F__law_by.kp N.b__law_by .nil pass0 (pa_cons (pv 0) (pa_cons (pv 4) (pa_cons (pv 3) pa_nil)))) pa_nil)))))))))))),
   fun B H0 as0 => ar3 fun hand_here_1 letters_2 upmost_3 => ⟨_, rfl,
 (blk_par2 (i0 := 3) (i1 := 4) (ev_op ok_add (EvW.r ev_int) (EvW.r (ev_call (ea_cons (ev_var (i := 0) rfl) (ea_cons (ev_var (i := 2) rfl) ea_nil))))) (ev_call (ea_cons (ev_var (i := 0) rfl) (ea_cons (EvN.ew (en_lst (ea_cons ev_str (ea_cons ev_str (ea_cons ev_str (ea_cons ev_str ea_nil)))))) ea_nil))) fun rooms_here_4 kind_5 =>
 (blk_tg (vs := [5, 6, 7]) (ev_tup (ea_cons (ev_op ok_add (EvW.r ev_int) (EvW.r (ev_call (ea_cons (ev_var (i := 0) rfl) (ea_cons ev_int ea_nil))))) (ea_cons (ev_call (ea_cons (ev_var (i := 0) rfl) (ea_cons ev_int ea_nil))) (ea_cons (EvN.ew (en_lst ea_nil)) ea_nil)))) (pat3 (P := fun δ w => Blk _ _ δ w _ _) (by decide) (by decide) (by decide) fun chance_6 full_7 ways_8 =>
 (blk_seq (blk_forL (S := U) [8, 9, 10] [8] (fun s_9 => [some (.im hand_here_1), some (.im letters_2), some (.im upmost_3), some (.im rooms_here_4), some (.im kind_5), some (.im chance_6), some (.im full_7), some (.im s_9), none, none, none, none]) (by rfl) (src_range1 (EvW.r (ev_var (i := 3) rfl)))
 (fun s_9 room_10 st r q => ⟨_, tg_name (by decide), (blk_last (blk_seq (blk_forL (S := U) [9, 10] [9] (fun s_11 => [some (.im hand_here_1), some (.im letters_2), some (.im upmost_3), some (.im rooms_here_4), some (.im kind_5), some (.im chance_6), some (.im full_7), some (.im s_11), some (.im room_10), none, none, none]) (by rfl) (src_range1 (EvW.r (ev_var (i := 1) rfl)))
 (fun s_11 letter_12 st r q => ⟨_, tg_name (by decide), (blk_set (i := 10) (EvN.ew (en_lc (by rfl) (src_range1 (EvW.r (ev_var (i := 3) rfl))) fun end_16 st r q => ⟨_, tg_name (by decide), (et_test (EvW.r (ev_op ok_eq (EvW.r (ev_call (ea_cons (ev_var (i := 0) rfl) (ea_cons (ev_var (i := 5) rfl) ea_nil)))) (EvW.r ev_int)))), (ev_var (i := 11) rfl)⟩)) fun ends_15 =>
 (blk_seq (blk_ifL (S := U) (fun s_18 => [some (.im hand_here_1), some (.im letters_2), some (.im upmost_3), some (.im rooms_here_4), some (.im kind_5), some (.im chance_6), some (.im full_7), some (.im s_11), some (.im room_10), some (.im letter_12), some (.im s_18), none]) (et_or (et_test (EvW.r (ev_op ok_eq (EvW.r (ev_var (i := 6) rfl)) (EvW.r ev_int)))) (et_and (et_test (EvW.r (ev_op ok_eq (EvW.r (ev_var (i := 6) rfl)) (EvW.r ev_int)))) (et_test (EvW.r (ev_op ok_eq (EvW.r (ev_var (i := 10) rfl)) (EvW.r (EvN.ew (en_lst ea_nil))))))))
 (blk_last (blk_set (i := 10) (EvN.ew (en_lst (ea_cons (ev_call (ea_cons (ev_var (i := 0) rfl) (ea_cons (ev_var (i := 3) rfl) ea_nil))) ea_nil))) fun ends_19 =>
 (blk_fin [] (by rfl))))
 (blk_fin [] (by rfl))) fun s_18 =>
 (blk_last (blk_set (i := 7) (ev_op ok_add (EvW.r (ev_var (i := 7) rfl)) (EvW.r (EvN.ew (en_lc (by rfl) (src_it (ev_var (i := 10) rfl)) fun end_23 st r q => ⟨_, tg_name (by decide), et_yes, (ev_tup (ea_cons (ev_var (i := 8) rfl) (ea_cons (ev_var (i := 9) rfl) (ea_cons (ev_var (i := 11) rfl) ea_nil))))⟩)))) fun ways_22 =>
 (blk_fin [9, 10] (by rfl))))))⟩)) fun s_11 =>
 (blk_fin [8, 9, 10] (by rfl))))⟩)) fun s_9 =>
 (blk_ret (ef_tup (eaf_cons (EvW.f (ev_var (i := 1) rfl)) (eaf_cons (EvW.f (ev_var (i := 3) rfl)) (eaf_cons (EvW.f (ev_call (ea_cons (ev_var (i := 0) rfl) (ea_cons (ev_var (i := 3) rfl) ea_nil)))) (eaf_cons (EvW.f (ev_cb1 ok_tuple (EvW.r (ev_var (i := 7) rfl)))) (eaf_cons (EvW.f (ev_var (i := 4) rfl)) (eaf_cons (EvW.f (ev_call (ea_cons (ev_var (i := 0) rfl) (ea_cons (ev_var (i := 4) rfl) (ea_cons (ev_var (i := 3) rfl) ea_nil))))) eaf_nil))))))))))))⟩⟩

noncomputable def m_Hall_ends (self_1 room_2 letter_3 : U) : M U := fnM (rtO (op1 tupleU (.bind (op2 ixU (op1 (fldU ["Hall"] "goals") (.ret self_1)) (.ret room_2)) fun d => .bind (.ret letter_3) fun k => .bind (lstW nilA) fun z => .o (getD2 d k z))))
theorem w_Hall_ends {P : Program} {w : World} {K : PySem.W.Frag} {mg : Str → Option Value} {bs : Heap} (N : En w K mg) : FnOk P w K mg bs CX0 1 (He.ma K (He.ga K "Hall") "ends") N.fd_Hall_ends ["self", "room", "letter"] (spM ⟨K, He.ga K⟩ (L3 m_Hall_ends)) :=
  fn_okF N.F_Hall_ends sc_Hall_ends (ar3 fun _ _ _ => rfl) fun cv A o s H E hr => ⟨_, PSs.nox (pss_one (ps_ret (pe_callTy (call_tupleK K) (by rfl) N.m_tuple (by decide +kernel) (pa_cons (pe_dget2 (hu_of hr) (pe_ix (ix_seqK K) (pe_fldK K (pv 0) rfl) (pv 1) (fun _ _ => rfl)) (pv 2) (pe_lst pa_nil) ⟨rfl, rfl, rfl, rfl⟩) pa_nil)))),
   fun B H0 as0 => ar3 fun self_1 room_2 letter_3 => ⟨_, rfl,
 (blk_ret (EvW.f (ev_cb1 ok_tuple (EvW.r (ev_dget2 (EvW.r (ev_op ok_ix (EvW.r (ev_fld N.hf_goals (EvW.r (ev_var (i := 0) rfl)))) (EvW.r (ev_var (i := 1) rfl)))) (EvW.r (ev_var (i := 2) rfl)) (EvN.ew (en_lst ea_nil)))))))⟩⟩

noncomputable def m_Hall_is_certain (self_1 : U) : M U := fnM (rtO (op1 allU (lc2W (rng1W (op1 (fldU ["Hall"] "rooms") (.ret self_1))) (fun room_2 => (.ret true)) (fun room_2 => (rng1W (op1 (fldU ["Hall"] "letters") (.ret self_1)))) (fun room_2 letter_4 => (.ret true)) fun room_2 letter_4 => (op2 eqU (op1 lenU (methM "Hall" "ends" (L3 m_Hall_ends) (.ret self_1) (consA (.ret room_2) (consA (.ret letter_4) nilA)))) (.ret (.int 1))))))
theorem w_Hall_is_certain {P : Program} {w : World} {K : PySem.W.Frag} {mg : Str → Option Value} {bs : Heap} (N : En w K mg) : FnOk P w K mg bs CX0 2 (He.ma K (He.ga K "Hall") "is_certain") N.fd_Hall_is_certain ["self"] (spM ⟨K, He.ga K⟩ (L1 m_Hall_is_certain)) :=
  fn_okF N.F_Hall_is_certain sc_Hall_is_certain (ar1 fun _ => rfl) fun cv A o s H E hr => ⟨_, PSs.nox (pss_one (ps_ret (pe_callB (cr_allK K rfl) (by rfl) N.m_all (by decide +kernel) (pa_cons (pe_lc2 (own := [("room", 1), ("letter", 2)]) (vs1 := [2]) (by rfl) sc_Hall_is_certain.nd (pi_range1 (by rfl) N.m_range (pa_cons (pe_fldK K (pv 0) rfl) pa_nil)) (blkOk_by (own := [("room", 1), ("letter", 2)]) (N := N_Hall_is_certain) (sc := defScope s_Hall_is_certain) (by decide +kernel)) (by decide) (fun _ _ _ _ _ => (pg_name (i := 1) sc_Hall_is_certain.nd rfl (.inl rfl))) (fun _ _ _ _ _ => pts_nil) (fun _ _ _ _ _ => (pi_range1 (by rfl) N.m_range (pa_cons (pe_fldK K (pv 0) rfl) pa_nil))) (fun _ _ _ _ _ => (pg_name (i := 2) sc_Hall_is_certain.nd rfl (.inl rfl))) (fun _ _ _ _ _ => pts_nil) (fun _ _ _ _ _ => (pe_cmpR (op_eqK K hr.units) (pe_callB (call_lenK K) (by rfl) N.m_len PySem.boot_len (pa_cons (pe_meth (pv 0) N.cl_Hall N.me_Hall_ends (w_Hall_ends N) (hr.mono (by decide)) N.b_Hall_ends .nil pass0 (pa_cons (pv 1) (pa_cons (pv 2) pa_nil))) pa_nil)) pe_int (nomark _)))) pa_nil)))),
   fun B H0 as0 => ar1 fun self_1 => ⟨_, rfl,
 (blk_ret (EvW.f (ev_cb1 ok_all (EvW.r (EvN.ew (en_lc2 (by rfl) (by decide) (src_range1 (EvW.r (ev_fld N.hf_rooms (EvW.r (ev_var (i := 0) rfl))))) fun room_2 st r q => ⟨_, tg_name (by decide), et_yes, (src_range1 (EvW.r (ev_fld N.hf_letters (EvW.r (ev_var (i := 0) rfl))))), fun letter_4 st r q => ⟨_, tg_name (by decide), et_yes, (ev_op ok_eq (EvW.r (ev_cb1 ok_len (EvW.r (ev_meth (c := "Hall") (ev_var (i := 0) rfl) (ea_cons (ev_var (i := 1) rfl) (ea_cons (ev_var (i := 2) rfl) ea_nil)))))) (EvW.r ev_int))⟩⟩))))))⟩⟩

noncomputable def m_are_rising (some_1 : U) : M U := fnM (rtO (op1 allU (lcW (zipW (.ret some_1) (slW (.ret some_1) (someP (.ret (.int 1))) noP)) (fun e_4 => un2 e_4 fun one_2 other_3 => (.ret true)) fun e_4 => un2 e_4 fun one_2 other_3 => (op2 ltU (.ret one_2) (.ret other_3)))))
theorem w_are_rising {P : Program} {w : World} {K : PySem.W.Frag} {mg : Str → Option Value} {bs : Heap} (N : En w K mg) : FnOk P w K mg bs CX0 1 (He.ga K "are_rising") N.fd_are_rising ["some"] (spM ⟨K, He.ga K⟩ (L1 m_are_rising)) :=
  fn_okF N.F_are_rising sc_are_rising (ar1 fun _ => rfl) fun cv A o s H E hr => ⟨_, PSs.nox (pss_one (ps_ret (pe_callB (cr_allK K rfl) (by rfl) N.m_all (by decide +kernel) (pa_cons (pe_lc (own := [("one", 1), ("other", 2)]) (by rfl) sc_are_rising.nd (pi_zipAK K (by rfl) N.m_zip (pa_cons (pv 0) (pa_cons (pe_slice (sl_seqK K) (pv 0) (po_some pe_int) po_none) pa_nil))) (blkOk_by (own := [("one", 1), ("other", 2)]) (N := N_are_rising) (sc := defScope s_are_rising) (by decide +kernel)) (fun _ _ _ _ _ => (pg_tupK K rfl (pgs_cons (pg_name (i := 1) sc_are_rising.nd rfl (.inl rfl)) (pgs_cons (pg_name (i := 2) sc_are_rising.nd rfl (.inl rfl)) pgs_nil)))) (fun _ _ _ _ _ => pts_nil) (fun _ _ _ _ _ => (pe_cmpR (op_ltK K hr.units) (pv 1) (pv 2) (nomark _)))) pa_nil)))),
   fun B H0 as0 => ar1 fun some_1 => ⟨_, rfl,
 (blk_ret (EvW.f (ev_cb1 ok_all (EvW.r (EvN.ew (en_lc (by rfl) (src_zip (ev_var (i := 0) rfl) (ev_sl (EvW.r (ev_var (i := 0) rfl)) (eo_some (EvW.r ev_int)) eo_none)) (lcp2 (i := 1) (j := 2) (vs := [1, 2]) (by decide) (by decide) fun one_2 other_3 => ⟨et_yes, (ev_op ok_lt (EvW.r (ev_var (i := 1) rfl)) (EvW.r (ev_var (i := 2) rfl)))⟩)))))))⟩⟩

noncomputable def m_is_whole (thing_1 : U) : M U := fnM (rtO (andW (op1 (isiU · "int") (.ret thing_1)) (op1 notU (op1 (isiU · "bool") (.ret thing_1)))))
theorem w_is_whole {P : Program} {w : World} {K : PySem.W.Frag} {mg : Str → Option Value} {bs : Heap} (N : En w K mg) : FnOk P w K mg bs CX0 1 (He.ga K "is_whole") N.fd_is_whole ["thing"] (spM ⟨K, He.ga K⟩ (L1 m_is_whole)) :=
  fn_okF N.F_is_whole sc_is_whole (ar1 fun _ => rfl) fun cv A o s H E hr => ⟨_, PSs.nox (pss_one (ps_ret (pe_and (pe_callB (call_isiK K) (by rfl) N.m_isinstance (by decide +kernel) (pa_cons (pv 0) (pa_cons (pe_bltn (v := .ty "int") (by rfl) N.m_int (by decide +kernel) rfl) pa_nil))) (pe_one (pe_not (pe_callB (call_isiK K) (by rfl) N.m_isinstance (by decide +kernel) (pa_cons (pv 0) (pa_cons (pe_bltn (v := .ty "bool") (by rfl) N.m_bool (by decide +kernel) rfl) pa_nil)))))))),
   fun B H0 as0 => ar1 fun thing_1 => ⟨_, rfl,
 (blk_ret (EvW.f (ev_and (EvW.r (ev_isi (EvW.r (ev_var (i := 0) rfl)))) (ev_not (EvW.r (ev_isi (EvW.r (ev_var (i := 0) rfl))))))))⟩⟩

noncomputable def m_is_below (thing_1 many_2 : U) : M U := fnM (rtO (andW (callM (L1 m_is_whole) (consA (.ret thing_1) nilA)) (chainW leU ltU (.ret (.int 0)) (.ret thing_1) (.ret many_2))))
theorem w_is_below {P : Program} {w : World} {K : PySem.W.Frag} {mg : Str → Option Value} {bs : Heap} (N : En w K mg) : FnOk P w K mg bs CX0 2 (He.ga K "is_below") N.fd_is_below ["thing", "many"] (spM ⟨K, He.ga K⟩ (L2' m_is_below)) :=
  fn_okF N.F_is_below sc_is_below (ar2 fun _ _ => rfl) fun cv A o s H E hr => ⟨_, PSs.nox (pss_one (ps_ret (pe_and (pe_call (w_is_whole N) (hr.mono (by decide)) (by rfl) N.g_is_whole N.F_is_whole.kp N.b_is_whole .nil pass0 (pa_cons (pv 0) pa_nil)) (pe_one (pe_chain op_le (op_ltK K hr.units) pe_int (pv 0) (pv 1)))))),
   fun B H0 as0 => ar2 fun thing_1 many_2 => ⟨_, rfl,
 (blk_ret (EvW.f (ev_and (EvW.r (ev_call (ea_cons (ev_var (i := 0) rfl) ea_nil))) (ev_chain ok_le ok_lt (EvW.r ev_int) (EvW.r (ev_var (i := 0) rfl)) (EvW.r (ev_var (i := 1) rfl))))))⟩⟩

noncomputable def m_are_rising_below (thing_1 many_2 : U) : M U := fnM (rtO (andW (op1 (isiU · "tuple") (.ret thing_1)) (andW (op1 allU (lcW (itW (.ret thing_1)) (fun one_3 => (.ret true)) fun one_3 => (callM (L2' m_is_below) (consA (.ret one_3) (consA (.ret many_2) nilA))))) (callM (L1 m_are_rising) (consA (.ret thing_1) nilA)))))
theorem w_are_rising_below {P : Program} {w : World} {K : PySem.W.Frag} {mg : Str → Option Value} {bs : Heap} (N : En w K mg) : FnOk P w K mg bs CX0 3 (He.ga K "are_rising_below") N.fd_are_rising_below ["thing", "many"] (spM ⟨K, He.ga K⟩ (L2' m_are_rising_below)) :=
  fn_okF N.F_are_rising_below sc_are_rising_below (ar2 fun _ _ => rfl) fun cv A o s H E hr => ⟨_, PSs.nox (pss_one (ps_ret (pe_and (pe_callB (call_isiK K) (by rfl) N.m_isinstance (by decide +kernel) (pa_cons (pv 0) (pa_cons (pe_bltn (v := .ty "tuple") (by rfl) N.m_tuple (by decide +kernel) rfl) pa_nil))) (pe_and (pe_callB (cr_allK K rfl) (by rfl) N.m_all (by decide +kernel) (pa_cons (pe_lc (own := [("one", 2)]) (by rfl) sc_are_rising_below.nd (pi_seqK K (pv 0)) (blkOk_by (own := [("one", 2)]) (N := N_are_rising_below) (sc := defScope s_are_rising_below) (by decide +kernel)) (fun _ _ _ _ _ => (pg_name (i := 2) sc_are_rising_below.nd rfl (.inl rfl))) (fun _ _ _ _ _ => pts_nil) (fun _ _ _ _ _ => (pe_call (w_is_below N) (hr.mono (by decide)) (by rfl) N.g_is_below N.F_is_below.kp N.b_is_below .nil pass0 (pa_cons (pv 2) (pa_cons (pv 1) pa_nil))))) pa_nil)) (pe_one (pe_call (w_are_rising N) (hr.mono (by decide)) (by rfl) N.g_are_rising N.F_are_rising.kp N.b_are_rising .nil pass0 (pa_cons (pv 0) pa_nil))))))),
   fun B H0 as0 => ar2 fun thing_1 many_2 => ⟨_, rfl,
 (blk_ret (EvW.f (ev_and (EvW.r (ev_isi (EvW.r (ev_var (i := 0) rfl)))) (ev_and (EvW.r (ev_cb1 ok_all (EvW.r (EvN.ew (en_lc (by rfl) (src_it (ev_var (i := 0) rfl)) fun one_3 st r q => ⟨_, tg_name (by decide), et_yes, (ev_call (ea_cons (ev_var (i := 2) rfl) (ea_cons (ev_var (i := 1) rfl) ea_nil)))⟩))))) (ev_call (ea_cons (ev_var (i := 0) rfl) ea_nil))))))⟩⟩

noncomputable def m_are_rooms (rooms_1 thing_2 : U) : M U := fnM (rtO (callM (L2' m_are_rising_below) (consA (.ret thing_2) (consA (.ret rooms_1) nilA))))
theorem w_are_rooms {P : Program} {w : World} {K : PySem.W.Frag} {mg : Str → Option Value} {bs : Heap} (N : En w K mg) : FnOk P w K mg bs CX0 4 (He.ga K "are_rooms") N.fd_are_rooms ["rooms", "thing"] (spM ⟨K, He.ga K⟩ (L2' m_are_rooms)) :=
  fn_okF N.F_are_rooms sc_are_rooms (ar2 fun _ _ => rfl) fun cv A o s H E hr => ⟨_, PSs.nox (pss_one (ps_ret (pe_call (w_are_rising_below N) (hr.mono (by decide)) (by rfl) N.g_are_rising_below N.F_are_rising_below.kp N.b_are_rising_below .nil pass0 (pa_cons (pv 1) (pa_cons (pv 0) pa_nil))))),
   fun B H0 as0 => ar2 fun rooms_1 thing_2 => ⟨_, rfl,
 (blk_ret (EvW.f (ev_call (ea_cons (ev_var (i := 1) rfl) (ea_cons (ev_var (i := 0) rfl) ea_nil)))))⟩⟩

noncomputable def m_are_pairs (rooms_1 thing_2 : U) : M U := fnM (seqO (S := Unit) (iteW (notT (testW (op1 (isiU · "tuple") (.ret thing_2)))) (rtO (.ret (.bl false))) (nxO ())) fun s_3 => (seqO (S := Unit) (.bind (itW (.ret thing_2)) fun us => forO (fun pair_5 s_4 => (iteW (orT (notT (testW (op1 (isiU · "tuple") (.ret pair_5)))) (orT (testW (op2 neU (op1 lenU (.ret pair_5)) (.ret (.int 2)))) (notT (testW (op1 allU (lcW (itW (.ret pair_5)) (fun part_6 => (.ret true)) fun part_6 => (callM (L2' m_are_rooms) (consA (.ret rooms_1) (consA (.ret part_6) nilA))))))))) (rtO (.ret (.bl false))) (nxO ()))) us ()) fun s_4 => (rtO (.ret (.bl true)))))
theorem w_are_pairs {P : Program} {w : World} {K : PySem.W.Frag} {mg : Str → Option Value} {bs : Heap} (N : En w K mg) : FnOk P w K mg bs CX0 5 (He.ga K "are_pairs") N.fd_are_pairs ["rooms", "thing"] (spM ⟨K, He.ga K⟩ (L2' m_are_pairs)) :=
  fn_okF N.F_are_pairs sc_are_pairs (ar2 fun _ _ => rfl) fun cv A o s H E hr => ⟨_, PSs.nox (pss_cons (ps_if (pt_not (pt_val (pe_callB (call_isiK K) (by rfl) N.m_isinstance (by decide +kernel) (pa_cons (pv 1) (pa_cons (pe_bltn (v := .ty "tuple") (by rfl) N.m_tuple (by decide +kernel) rfl) pa_nil)))))
 (pss_one (ps_ret pe_bl))
 pss_nil)
 (pss_cons (ps_for PassesOwn.never rfl (pi_seqK K (pv 1)) (pg_name (i := 2) sc_are_pairs.nd rfl (.inl rfl))
 (pss_one (ps_if (PW.pt (pw_or (pt_not (pt_val (pe_callB (call_isiK K) (by rfl) N.m_isinstance (by decide +kernel) (pa_cons (pv 2) (pa_cons (pe_bltn (v := .ty "tuple") (by rfl) N.m_tuple (by decide +kernel) rfl) pa_nil))))) (pw_or (pt_cmpR (op_neK K hr.units) (pe_callB (call_lenK K) (by rfl) N.m_len PySem.boot_len (pa_cons (pv 2) pa_nil)) pe_int (nomark _)) (pw_or1 (pt_not (pt_val (pe_callB (cr_allK K rfl) (by rfl) N.m_all (by decide +kernel) (pa_cons (pe_lc (own := [("part", 3)]) (by rfl) sc_are_pairs.nd (pi_seqK K (pv 2)) (blkOk_by (own := [("part", 3)]) (N := N_are_pairs) (sc := defScope s_are_pairs) (by decide +kernel)) (fun _ _ _ _ _ => (pg_name (i := 3) sc_are_pairs.nd rfl (.inl rfl))) (fun _ _ _ _ _ => pts_nil) (fun _ _ _ _ _ => (pe_call (w_are_rooms N) (hr.mono (by decide)) (by rfl) N.g_are_rooms N.F_are_rooms.kp N.b_are_rooms .nil pass0 (pa_cons (pv 0) (pa_cons (pv 3) pa_nil))))) pa_nil))))))))
 (pss_one (ps_ret pe_bl))
 pss_nil)))
 (pss_one (ps_ret pe_bl)))),
   fun B H0 as0 => ar2 fun rooms_1 thing_2 => ⟨_, rfl,
 (blk_seq (blk_ifL (S := Unit) (fun s_3 => [some (.im rooms_1), some (.im thing_2), none, none]) (et_not (et_B (EvW.r (ev_isi (EvW.r (ev_var (i := 1) rfl))))))
 (blk_ret (EvW.f ev_bl))
 (blk_fin [] (by rfl))) fun s_3 =>
 (blk_seq (blk_forL (S := Unit) [2] [2] (fun s_4 => [some (.im rooms_1), some (.im thing_2), none, none]) (by rfl) (src_it (ev_var (i := 1) rfl))
 (fun s_4 pair_5 st r q => ⟨_, tg_name (by decide), (blk_if (et_or (et_not (et_B (EvW.r (ev_isi (EvW.r (ev_var (i := 2) rfl)))))) (et_or (et_test (EvW.r (ev_op ok_ne (EvW.r (ev_cb1 ok_len (EvW.r (ev_var (i := 2) rfl)))) (EvW.r ev_int)))) (et_not (et_B (EvW.r (ev_cb1 ok_all (EvW.r (EvN.ew (en_lc (by rfl) (src_it (ev_var (i := 2) rfl)) fun part_6 st r q => ⟨_, tg_name (by decide), et_yes, (ev_call (ea_cons (ev_var (i := 0) rfl) (ea_cons (ev_var (i := 3) rfl) ea_nil)))⟩)))))))))
 (blk_ret (EvW.f ev_bl))
 (blk_fin [2] (by rfl)))⟩)) fun s_4 =>
 (blk_ret (EvW.f ev_bl))))⟩⟩

noncomputable def m_are_ranks (rooms_1 thing_2 : U) : M U := fnM (rtO (andW (op1 (isiU · "tuple") (.ret thing_2)) (andW (op2 eqU (op1 lenU (.ret thing_2)) (.ret rooms_1)) (op1 allU (lcW (itW (.ret thing_2)) (fun one_3 => (.ret true)) fun one_3 => (andW (callM (L1 m_is_whole) (consA (.ret one_3) nilA)) (op2 geU (.ret one_3) (.ret (.int 0)))))))))
theorem w_are_ranks {P : Program} {w : World} {K : PySem.W.Frag} {mg : Str → Option Value} {bs : Heap} (N : En w K mg) : FnOk P w K mg bs CX0 2 (He.ga K "are_ranks") N.fd_are_ranks ["rooms", "thing"] (spM ⟨K, He.ga K⟩ (L2' m_are_ranks)) :=
  fn_okF N.F_are_ranks sc_are_ranks (ar2 fun _ _ => rfl) fun cv A o s H E hr => ⟨_, PSs.nox (pss_one (ps_ret (pe_and (pe_callB (call_isiK K) (by rfl) N.m_isinstance (by decide +kernel) (pa_cons (pv 1) (pa_cons (pe_bltn (v := .ty "tuple") (by rfl) N.m_tuple (by decide +kernel) rfl) pa_nil))) (pe_and (pe_cmpR (op_eqK K hr.units) (pe_callB (call_lenK K) (by rfl) N.m_len PySem.boot_len (pa_cons (pv 1) pa_nil)) (pv 0) (nomark _)) (pe_one (pe_callB (cr_allK K rfl) (by rfl) N.m_all (by decide +kernel) (pa_cons (pe_lc (own := [("one", 2)]) (by rfl) sc_are_ranks.nd (pi_seqK K (pv 1)) (blkOk_by (own := [("one", 2)]) (N := N_are_ranks) (sc := defScope s_are_ranks) (by decide +kernel)) (fun _ _ _ _ _ => (pg_name (i := 2) sc_are_ranks.nd rfl (.inl rfl))) (fun _ _ _ _ _ => pts_nil) (fun _ _ _ _ _ => (pe_and (pe_call (w_is_whole N) (hr.mono (by decide)) (by rfl) N.g_is_whole N.F_is_whole.kp N.b_is_whole .nil pass0 (pa_cons (pv 2) pa_nil)) (pe_one (pe_cmpR op_ge (pv 2) pe_int (nomark _)))))) pa_nil))))))),
   fun B H0 as0 => ar2 fun rooms_1 thing_2 => ⟨_, rfl,
 (blk_ret (EvW.f (ev_and (EvW.r (ev_isi (EvW.r (ev_var (i := 1) rfl)))) (ev_and (EvW.r (ev_op ok_eq (EvW.r (ev_cb1 ok_len (EvW.r (ev_var (i := 1) rfl)))) (EvW.r (ev_var (i := 0) rfl)))) (ev_cb1 ok_all (EvW.r (EvN.ew (en_lc (by rfl) (src_it (ev_var (i := 1) rfl)) fun one_3 st r q => ⟨_, tg_name (by decide), et_yes, (ev_and (EvW.r (ev_call (ea_cons (ev_var (i := 2) rfl) ea_nil))) (ev_op ok_ge (EvW.r (ev_var (i := 2) rfl)) (EvW.r ev_int)))⟩))))))))⟩⟩

noncomputable def m_are_ways (letters_1 rooms_2 thing_3 : U) : M U := fnM (seqO (S := Unit) (iteW (notT (testW (op1 (isiU · "tuple") (.ret thing_3)))) (rtO (.ret (.bl false))) (nxO ())) fun s_4 => (seqO (S := Unit) (.bind (itW (.ret thing_3)) fun us => forO (fun way_6 s_5 => (seqO (S := Unit) (iteW (orT (notT (testW (op1 (isiU · "tuple") (.ret way_6)))) (testW (op2 neU (op1 lenU (.ret way_6)) (.ret (.int 3))))) (rtO (.ret (.bl false))) (nxO ())) fun s_7 => (iteW (orT (notT (testW (callM (L2' m_is_below) (consA (op2 ixU (.ret way_6) (.ret (.int 0))) (consA (.ret rooms_2) nilA))))) (orT (notT (testW (callM (L2' m_is_below) (consA (op2 ixU (.ret way_6) (.ret (.int 1))) (consA (.ret letters_1) nilA))))) (notT (testW (callM (L2' m_is_below) (consA (op2 ixU (.ret way_6) (.ret (.int 2))) (consA (.ret rooms_2) nilA))))))) (rtO (.ret (.bl false))) (nxO ())))) us ()) fun s_5 => (rtO (callM (L1 m_are_rising) (consA (.ret thing_3) nilA)))))
theorem w_are_ways {P : Program} {w : World} {K : PySem.W.Frag} {mg : Str → Option Value} {bs : Heap} (N : En w K mg) : FnOk P w K mg bs CX0 3 (He.ga K "are_ways") N.fd_are_ways ["letters", "rooms", "thing"] (spM ⟨K, He.ga K⟩ (L3 m_are_ways)) :=
  fn_okF N.F_are_ways sc_are_ways (ar3 fun _ _ _ => rfl) fun cv A o s H E hr => ⟨_, PSs.nox (pss_cons (ps_if (pt_not (pt_val (pe_callB (call_isiK K) (by rfl) N.m_isinstance (by decide +kernel) (pa_cons (pv 2) (pa_cons (pe_bltn (v := .ty "tuple") (by rfl) N.m_tuple (by decide +kernel) rfl) pa_nil)))))
 (pss_one (ps_ret pe_bl))
 pss_nil)
 (pss_cons (ps_for PassesOwn.never rfl (pi_seqK K (pv 2)) (pg_name (i := 3) sc_are_ways.nd rfl (.inl rfl))
 (pss_cons (ps_if (PW.pt (pw_or (pt_not (pt_val (pe_callB (call_isiK K) (by rfl) N.m_isinstance (by decide +kernel) (pa_cons (pv 3) (pa_cons (pe_bltn (v := .ty "tuple") (by rfl) N.m_tuple (by decide +kernel) rfl) pa_nil))))) (pw_or1 (pt_cmpR (op_neK K hr.units) (pe_callB (call_lenK K) (by rfl) N.m_len PySem.boot_len (pa_cons (pv 3) pa_nil)) pe_int (nomark _)))))
 (pss_one (ps_ret pe_bl))
 pss_nil)
 (pss_one (ps_if (PW.pt (pw_or (pt_not (pt_val (pe_call (w_is_below N) (hr.mono (by decide)) (by rfl) N.g_is_below N.F_is_below.kp N.b_is_below .nil pass0 (pa_cons (pe_ix (ix_seqK K) (pv 3) pe_int (fun _ _ => rfl)) (pa_cons (pv 1) pa_nil))))) (pw_or (pt_not (pt_val (pe_call (w_is_below N) (hr.mono (by decide)) (by rfl) N.g_is_below N.F_is_below.kp N.b_is_below .nil pass0 (pa_cons (pe_ix (ix_seqK K) (pv 3) pe_int (fun _ _ => rfl)) (pa_cons (pv 0) pa_nil))))) (pw_or1 (pt_not (pt_val (pe_call (w_is_below N) (hr.mono (by decide)) (by rfl) N.g_is_below N.F_is_below.kp N.b_is_below .nil pass0 (pa_cons (pe_ix (ix_seqK K) (pv 3) pe_int (fun _ _ => rfl)) (pa_cons (pv 1) pa_nil)))))))))
 (pss_one (ps_ret pe_bl))
 pss_nil))))
 (pss_one (ps_ret (pe_call (w_are_rising N) (hr.mono (by decide)) (by rfl) N.g_are_rising N.F_are_rising.kp N.b_are_rising .nil pass0 (pa_cons (pv 2) pa_nil)))))),
   fun B H0 as0 => ar3 fun letters_1 rooms_2 thing_3 => ⟨_, rfl,
 (blk_seq (blk_ifL (S := Unit) (fun s_4 => [some (.im letters_1), some (.im rooms_2), some (.im thing_3), none]) (et_not (et_B (EvW.r (ev_isi (EvW.r (ev_var (i := 2) rfl))))))
 (blk_ret (EvW.f ev_bl))
 (blk_fin [] (by rfl))) fun s_4 =>
 (blk_seq (blk_forL (S := Unit) [3] [3] (fun s_5 => [some (.im letters_1), some (.im rooms_2), some (.im thing_3), none]) (by rfl) (src_it (ev_var (i := 2) rfl))
 (fun s_5 way_6 st r q => ⟨_, tg_name (by decide), (blk_seq (blk_ifL (S := Unit) (fun s_7 => [some (.im letters_1), some (.im rooms_2), some (.im thing_3), some (.im way_6)]) (et_or (et_not (et_B (EvW.r (ev_isi (EvW.r (ev_var (i := 3) rfl)))))) (et_test (EvW.r (ev_op ok_ne (EvW.r (ev_cb1 ok_len (EvW.r (ev_var (i := 3) rfl)))) (EvW.r ev_int)))))
 (blk_ret (EvW.f ev_bl))
 (blk_fin [] (by rfl))) fun s_7 =>
 (blk_if (et_or (et_not (et_B (EvW.r (ev_call (ea_cons (ev_op ok_ix (EvW.r (ev_var (i := 3) rfl)) (EvW.r ev_int)) (ea_cons (ev_var (i := 1) rfl) ea_nil)))))) (et_or (et_not (et_B (EvW.r (ev_call (ea_cons (ev_op ok_ix (EvW.r (ev_var (i := 3) rfl)) (EvW.r ev_int)) (ea_cons (ev_var (i := 0) rfl) ea_nil)))))) (et_not (et_B (EvW.r (ev_call (ea_cons (ev_op ok_ix (EvW.r (ev_var (i := 3) rfl)) (EvW.r ev_int)) (ea_cons (ev_var (i := 1) rfl) ea_nil))))))))
 (blk_ret (EvW.f ev_bl))
 (blk_fin [3] (by rfl))))⟩)) fun s_5 =>
 (blk_ret (EvW.f (ev_call (ea_cons (ev_var (i := 2) rfl) ea_nil))))))⟩⟩

noncomputable def m_fault_of (letters_1 rooms_2 start_3 ways_4 kind_5 by_6 : U) : M U := fnM (seqO (S := Unit) (iteW (orT (notT (testW (callM (L1 m_is_whole) (consA (.ret letters_1) nilA)))) (notT (testW (chainW leU leU (.ret (.int 1)) (.ret letters_1) (.ret (.int 4)))))) (rtO (.ret (.str "letters"))) (nxO ())) fun s_7 => (seqO (S := Unit) (iteW (orT (notT (testW (callM (L1 m_is_whole) (consA (.ret rooms_2) nilA)))) (testW (op2 ltU (.ret rooms_2) (.ret (.int 1))))) (rtO (.ret (.str "rooms"))) (nxO ())) fun s_8 => (seqO (S := Unit) (iteW (notT (testW (callM (L2' m_is_below) (consA (.ret start_3) (consA (.ret rooms_2) nilA))))) (rtO (.ret (.str "start"))) (nxO ())) fun s_9 => (seqO (S := Unit) (iteW (notT (testW (callM (L3 m_are_ways) (consA (.ret letters_1) (consA (.ret rooms_2) (consA (.ret ways_4) nilA)))))) (rtO (.ret (.str "ways"))) (nxO ())) fun s_10 => (seqO (S := Unit) (iteW (orT (notT (testW (op1 (isiU · "str") (.ret kind_5)))) (testW (op2 (notTabU "KINDS" tab_KINDS) (.ret kind_5) (.ret (.top "KINDS"))))) (rtO (.ret (.str "kind"))) (nxO ())) fun s_11 => (.bind (op2 (itemTabU "KINDS" tab_KINDS) (.ret (.top "KINDS")) (.ret kind_5)) fun looked_12 => (rtO (iteW (testW (callJM [("are_rooms", L2' m_are_rooms), ("are_pairs", L2' m_are_pairs), ("are_ranks", L2' m_are_ranks)] looked_12 (consA (.ret rooms_2) (consA (.ret by_6) nilA)))) (.ret .non) (.ret (.str "by"))))))))))
theorem w_fault_of {P : Program} {w : World} {K : PySem.W.Frag} {mg : Str → Option Value} {bs : Heap} (N : En w K mg) : FnOk P w K mg bs CX0 6 (He.ga K "fault_of") N.fd_fault_of ["letters", "rooms", "start", "ways", "kind", "by"] (spM ⟨K, He.ga K⟩ (L6 m_fault_of)) :=
  fn_okF N.F_fault_of sc_fault_of (ar6 fun _ _ _ _ _ _ => rfl) fun cv A o s H E hr => ⟨_, PSs.nox (pss_cons (ps_if (PW.pt (pw_or (pt_not (pt_val (pe_call (w_is_whole N) (hr.mono (by decide)) (by rfl) N.g_is_whole N.F_is_whole.kp N.b_is_whole .nil pass0 (pa_cons (pv 0) pa_nil)))) (pw_or1 (pt_not (pt_chain op_le op_le pe_int (pv 0) (pe_glob (v := .int 4) rfl N.k_MOST_LETTERS ⟨_, rfl⟩))))))
 (pss_one (ps_ret pe_str))
 pss_nil)
 (pss_cons (ps_if (PW.pt (pw_or (pt_not (pt_val (pe_call (w_is_whole N) (hr.mono (by decide)) (by rfl) N.g_is_whole N.F_is_whole.kp N.b_is_whole .nil pass0 (pa_cons (pv 1) pa_nil)))) (pw_or1 (pt_cmpR (op_ltK K hr.units) (pv 1) pe_int (nomark _)))))
 (pss_one (ps_ret pe_str))
 pss_nil)
 (pss_cons (ps_if (pt_not (pt_val (pe_call (w_is_below N) (hr.mono (by decide)) (by rfl) N.g_is_below N.F_is_below.kp N.b_is_below .nil pass0 (pa_cons (pv 2) (pa_cons (pv 1) pa_nil)))))
 (pss_one (ps_ret pe_str))
 pss_nil)
 (pss_cons (ps_if (pt_not (pt_val (pe_call (w_are_ways N) (hr.mono (by decide)) (by rfl) N.g_are_ways N.F_are_ways.kp N.b_are_ways .nil pass0 (pa_cons (pv 0) (pa_cons (pv 1) (pa_cons (pv 3) pa_nil))))))
 (pss_one (ps_ret pe_str))
 pss_nil)
 (pss_cons (ps_if (PW.pt (pw_or (pt_not (pt_val (pe_callB (call_isiK K) (by rfl) N.m_isinstance (by decide +kernel) (pa_cons (pv 4) (pa_cons (pe_bltn (v := .ty "str") (by rfl) N.m_str (by decide +kernel) rfl) pa_nil))))) (pw_or1 (pt_cmpR (op_notTabK K N.T_KINDS) (pv 4) (pe_glob (v := .ref (He.ga K "KINDS")) rfl N.g_KINDS rfl) (by rfl)))))
 (pss_one (ps_ret pe_str))
 pss_nil)
 (pss_cons (ps_set (i := 6) sc_fault_of.nd rfl (.inl rfl) (pe_ix (ix_kdictK K w) (pe_glob (v := .ref (He.ga K "KINDS")) rfl N.g_KINDS rfl) (pv 4) (fun _ _ => rfl)))
 (pss_one (ps_ret (pe_ifExp (pt_val (pe_callJ (callJ_cons (pe_callL (i := 6) (w_are_rooms N) (hr.mono (by decide)) rfl (by first | exact Or.inl rfl | exact Or.inr (Or.inl rfl) | exact Or.inr (Or.inr rfl)) N.F_are_rooms.kp N.b_are_rooms .nil pass0 (pa_cons (pv 1) (pa_cons (pv 5) pa_nil))) (callJ_cons (pe_callL (i := 6) (w_are_pairs N) (hr.mono (by decide)) rfl (by first | exact Or.inl rfl | exact Or.inr (Or.inl rfl) | exact Or.inr (Or.inr rfl)) N.F_are_pairs.kp N.b_are_pairs .nil pass0 (pa_cons (pv 1) (pa_cons (pv 5) pa_nil))) (callJ_cons (pe_callL (i := 6) (w_are_ranks N) (hr.mono (by decide)) rfl (by first | exact Or.inl rfl | exact Or.inr (Or.inl rfl) | exact Or.inr (Or.inr rfl)) N.F_are_ranks.kp N.b_are_ranks .nil pass0 (pa_cons (pv 1) (pa_cons (pv 5) pa_nil))) callJ_nil))))) pe_non pe_str))))))))),
   fun B H0 as0 => ar6 fun letters_1 rooms_2 start_3 ways_4 kind_5 by_6 => ⟨_, rfl,
 (blk_seq (blk_ifL (S := Unit) (fun s_7 => [some (.im letters_1), some (.im rooms_2), some (.im start_3), some (.im ways_4), some (.im kind_5), some (.im by_6), none]) (et_or (et_not (et_B (EvW.r (ev_call (ea_cons (ev_var (i := 0) rfl) ea_nil))))) (et_not (et_test (EvW.r (ev_chain ok_le ok_le (EvW.r ev_int) (EvW.r (ev_var (i := 0) rfl)) (EvW.r ev_int))))))
 (blk_ret (EvW.f ev_str))
 (blk_fin [] (by rfl))) fun s_7 =>
 (blk_seq (blk_ifL (S := Unit) (fun s_8 => [some (.im letters_1), some (.im rooms_2), some (.im start_3), some (.im ways_4), some (.im kind_5), some (.im by_6), none]) (et_or (et_not (et_B (EvW.r (ev_call (ea_cons (ev_var (i := 1) rfl) ea_nil))))) (et_test (EvW.r (ev_op ok_lt (EvW.r (ev_var (i := 1) rfl)) (EvW.r ev_int)))))
 (blk_ret (EvW.f ev_str))
 (blk_fin [] (by rfl))) fun s_8 =>
 (blk_seq (blk_ifL (S := Unit) (fun s_9 => [some (.im letters_1), some (.im rooms_2), some (.im start_3), some (.im ways_4), some (.im kind_5), some (.im by_6), none]) (et_not (et_B (EvW.r (ev_call (ea_cons (ev_var (i := 2) rfl) (ea_cons (ev_var (i := 1) rfl) ea_nil))))))
 (blk_ret (EvW.f ev_str))
 (blk_fin [] (by rfl))) fun s_9 =>
 (blk_seq (blk_ifL (S := Unit) (fun s_10 => [some (.im letters_1), some (.im rooms_2), some (.im start_3), some (.im ways_4), some (.im kind_5), some (.im by_6), none]) (et_not (et_B (EvW.r (ev_call (ea_cons (ev_var (i := 0) rfl) (ea_cons (ev_var (i := 1) rfl) (ea_cons (ev_var (i := 3) rfl) ea_nil)))))))
 (blk_ret (EvW.f ev_str))
 (blk_fin [] (by rfl))) fun s_10 =>
 (blk_seq (blk_ifL (S := Unit) (fun s_11 => [some (.im letters_1), some (.im rooms_2), some (.im start_3), some (.im ways_4), some (.im kind_5), some (.im by_6), none]) (et_or (et_not (et_B (EvW.r (ev_isi (EvW.r (ev_var (i := 4) rfl)))))) (et_test (EvW.r (ev_op (ok_notTab N.T_KINDS) (EvW.r (ev_var (i := 4) rfl)) (EvW.r ev_top)))))
 (blk_ret (EvW.f ev_str))
 (blk_fin [] (by rfl))) fun s_11 =>
 (blk_set (i := 6) (ev_op (ok_itemTab N.T_KINDS) (EvW.r ev_top) (EvW.r (ev_var (i := 4) rfl))) fun looked_12 =>
 (blk_ret (EvW.f (ev_if (et_B (EvW.r (ev_callJ (i := 6) rfl (ea_cons (ev_var (i := 1) rfl) (ea_cons (ev_var (i := 5) rfl) ea_nil))))) ev_non ev_str)))))))))⟩⟩

noncomputable def m_Hall___init__ (self_1 letters_2 rooms_3 start_4 ways_5 kind_6 by_7 : U) : M U := fnM (.bind (callM (L6 m_fault_of) (consA (.ret letters_2) (consA (.ret rooms_3) (consA (.ret start_4) (consA (.ret ways_5) (consA (.ret kind_6) (consA (.ret by_7) nilA))))))) fun why_8 => (seqO (S := Unit) (iteW (testW (.bind (.ret why_8) fun a => .ret (.bl (!isNU a)))) (.raise .non) (nxO ())) fun s_9 => (.bind (.bind (.ret letters_2) fun u => .o (leafO u)) fun x => .bind (locM self_1) fun c => .bind (.o (newF ["Hall"] "letters" c x)) fun u => .bind (putC c.1 u) fun _ => (.bind (.bind (.ret rooms_3) fun u => .o (leafO u)) fun x => .bind (locM self_1) fun c => .bind (.o (newF ["Hall"] "rooms" c x)) fun u => .bind (putC c.1 u) fun _ => (.bind (.bind (.ret start_4) fun u => .o (leafO u)) fun x => .bind (locM self_1) fun c => .bind (.o (newF ["Hall"] "start" c x)) fun u => .bind (putC c.1 u) fun _ => (.bind (.bind (.ret ways_5) fun u => .o (leafO u)) fun x => .bind (locM self_1) fun c => .bind (.o (newF ["Hall"] "ways" c x)) fun u => .bind (putC c.1 u) fun _ => (.bind (.bind (.ret kind_6) fun u => .o (leafO u)) fun x => .bind (locM self_1) fun c => .bind (.o (newF ["Hall"] "kind" c x)) fun u => .bind (putC c.1 u) fun _ => (.bind (.bind (.ret by_7) fun u => .o (leafO u)) fun x => .bind (locM self_1) fun c => .bind (.o (newF ["Hall"] "by" c x)) fun u => .bind (putC c.1 u) fun _ => (.bind (lcW (rng1W (.ret rooms_3)) (fun room_10 => (.ret true)) fun room_10 => (.ret (.dct [] []))) fun x => .bind (locM self_1) fun c => .bind (.o (newF ["Hall"] "goals" c x)) fun u => .bind (putC c.1 u) fun _ => (seqO (S := Unit) (.bind (itW (.ret ways_5)) fun us => forO (fun e_15 s_11 => un3 e_15 fun room_12 letter_13 end_14 => (.bind (.bind (.bind (.bind (.ret self_1) locM) fun c => .o (fldC ["Hall"] "goals" c)) fun c => .bind (.ret room_12) fun n => .o (ixC c n)) fun c => .bind (.ret letter_13) fun y => .bind (.o (sdAppU c.2.1 y end_14)) fun d => .bind (putC c.1 (c.2.2 d)) fun _ => (nxO ()))) us ()) fun s_11 => (nxO ())))))))))))
theorem w_Hall___init__ {P : Program} {w : World} {K : PySem.W.Frag} {mg : Str → Option Value} {bs : Heap} (N : En w K mg) : FnOk P w K mg bs CX0 7 (He.ma K (He.ga K "Hall") "__init__") N.fd_Hall___init__ ["self", "letters", "rooms", "start", "ways", "kind", "by"] (spM ⟨K, He.ga K⟩ (L7 m_Hall___init__)) :=
  fn_okF N.F_Hall___init__ sc_Hall___init__ (ar7 fun _ _ _ _ _ _ _ => rfl) fun cv A o s H E hr => ⟨_, PSs.nox (pss_cons (ps_set (i := 7) sc_Hall___init__.nd rfl (.inl rfl) (pe_call (w_fault_of N) (hr.mono (by decide)) (by rfl) N.g_fault_of N.F_fault_of.kp N.b_fault_of .nil pass0 (pa_cons (pv 1) (pa_cons (pv 2) (pa_cons (pv 3) (pa_cons (pv 4) (pa_cons (pv 5) (pa_cons (pv 6) pa_nil))))))))
 (pss_cons (ps_if (pt_cmpR op_notN (pv 7) pe_non (nomark _))
 (pss_one ps_never)
 pss_nil)
 (pss_cons (ps_fld (pv 0) (pv 1) rfl)
 (pss_cons (ps_fld (pv 0) (pv 2) rfl)
 (pss_cons (ps_fld (pv 0) (pv 3) rfl)
 (pss_cons (ps_fld (pv 0) (pv 4) rfl)
 (pss_cons (ps_fld (pv 0) (pv 5) rfl)
 (pss_cons (ps_fld (pv 0) (pv 6) rfl)
 (pss_cons (ps_fld (pv 0) (pe_lc (own := [("room", 8)]) (by rfl) sc_Hall___init__.nd (pi_range1 (by rfl) N.m_range (pa_cons (pv 2) pa_nil)) (blkOk_by (own := [("room", 8)]) (N := N_Hall___init__) (sc := defScope s_Hall___init__) (by decide +kernel)) (fun _ _ _ _ _ => (pg_name (i := 8) sc_Hall___init__.nd rfl (.inl rfl))) (fun _ _ _ _ _ => pts_nil) (fun _ _ _ _ _ => pe_dnewK)) rfl)
 (pss_one (ps_for PassesOwn.never rfl (pi_seqK K (pv 4)) (pg_tup rfl (pgs_cons (pg_name (i := 8) sc_Hall___init__.nd rfl (.inl rfl)) (pgs_cons (pg_name (i := 9) sc_Hall___init__.nd rfl (.inl rfl)) (pgs_cons (pg_name (i := 10) sc_Hall___init__.nd rfl (.inl rfl)) pgs_nil))))
 (pss_one (ps_expr (pe_bm PySem.F.plainAttrs_list PySem.F.slot_list_append PySem.F.type_list_append mt_append (pe_dsetd (pe_ix (ix_seqK K) (pe_fldK K (pv 0) rfl) (pv 8) (fun _ _ => rfl)) (pv 9) (pe_lst pa_nil) ⟨rfl, rfl, rfl, rfl⟩) (pa_cons (pv 10) pa_nil))))))))))))))),
   fun B H0 as0 => ar7 fun self_1 letters_2 rooms_3 start_4 ways_5 kind_6 by_7 => ⟨_, rfl,
 (blk_set (i := 7) (ev_call (ea_cons (ev_var (i := 1) rfl) (ea_cons (ev_var (i := 2) rfl) (ea_cons (ev_var (i := 3) rfl) (ea_cons (ev_var (i := 4) rfl) (ea_cons (ev_var (i := 5) rfl) (ea_cons (ev_var (i := 6) rfl) ea_nil))))))) fun why_8 =>
 (blk_seq (blk_ifL (S := Unit) (fun s_9 => [some (.im self_1), some (.im letters_2), some (.im rooms_3), some (.im start_4), some (.im ways_5), some (.im kind_6), some (.im by_7), some (.im why_8), none, none, none]) (et_test (EvW.r (ev_notN (EvW.r (ev_var (i := 7) rfl)))))
 blk_never
 (blk_fin [] (by rfl))) fun s_9 =>
 (blk_fldC N.hf_letters (enf_leaf (ev_var (i := 1) rfl)) (j := 0) rfl
 (blk_fldC N.hf_rooms (enf_leaf (ev_var (i := 2) rfl)) (j := 0) rfl
 (blk_fldC N.hf_start (enf_leaf (ev_var (i := 3) rfl)) (j := 0) rfl
 (blk_fldC N.hf_ways (enf_leaf (ev_var (i := 4) rfl)) (j := 0) rfl
 (blk_fldC N.hf_kind (enf_leaf (ev_var (i := 5) rfl)) (j := 0) rfl
 (blk_fldC N.hf_by (enf_leaf (ev_var (i := 6) rfl)) (j := 0) rfl
 (blk_fldC N.hf_goals (enf_lc (by rfl) (src_range1 (EvW.r (ev_var (i := 2) rfl))) fun room_10 st r q => ⟨_, tg_name (by decide), et_yes, enf_dK⟩) (j := 0) rfl
 (blk_last (blk_seq (blk_forL (S := Unit) [8, 9, 10] [8, 9, 10] (fun s_11 => [some (.im self_1), some (.im letters_2), some (.im rooms_3), some (.im start_4), some (.im ways_5), some (.im kind_6), some (.im by_7), some (.im why_8), none, none, none]) (by rfl) (src_it (ev_var (i := 4) rfl))
 (fun s_11 => pat3 (P := fun δ w => Blk _ _ δ w _ _) (by decide) (by decide) (by decide) fun room_12 letter_13 end_14 => (blk_last (blk_sdApp (ec_ix (ec_fld N.hf_goals (ec_loc (ev_var (i := 0) rfl))) (eq_var (i := 8) rfl)) (eq_var (i := 9) rfl) (j := 10) rfl
 (blk_fin [8, 9, 10] (by rfl)))))) fun s_11 =>
 (blk_fin [0, 1, 2, 3, 4, 5, 6, 7, 8, 9, 10] (by rfl)))))))))))))⟩⟩

noncomputable def m__law_built (things_1 : U) : M U := fnM (.bind (.ret things_1) fun u_8 => un6 u_8 fun letters_2 rooms_here_3 first_4 ways_5 kind_6 by_here_7 => (rtO (mkM "Hall" (L7 m_Hall___init__) (consA (.ret letters_2) (consA (.ret rooms_here_3) (consA (.ret first_4) (consA (.ret ways_5) (consA (.ret kind_6) (consA (.ret by_here_7) nilA)))))))))
theorem w__law_built {P : Program} {w : World} {K : PySem.W.Frag} {mg : Str → Option Value} {bs : Heap} (N : En w K mg) : FnOk P w K mg bs CX0 9 (He.ga K "_law_built") N.fd__law_built ["_law_things"] (spM ⟨K, He.ga K⟩ (L1 m__law_built)) :=
  fn_okF N.F__law_built sc__law_built (ar1 fun _ => rfl) fun cv A o s H E hr => ⟨_, PSs.nox (pss_cons (ps_asg (pv 0) (pg_tup rfl (pgs_cons (pg_name (i := 1) sc__law_built.nd rfl (.inl rfl)) (pgs_cons (pg_name (i := 2) sc__law_built.nd rfl (.inl rfl)) (pgs_cons (pg_name (i := 3) sc__law_built.nd rfl (.inl rfl)) (pgs_cons (pg_name (i := 4) sc__law_built.nd rfl (.inl rfl)) (pgs_cons (pg_name (i := 5) sc__law_built.nd rfl (.inl rfl)) (pgs_cons (pg_name (i := 6) sc__law_built.nd rfl (.inl rfl)) pgs_nil))))))))
 (pss_one (ps_ret (pe_make N.mk_Hall (w_Hall___init__ N) (hr.mono (by decide)) (by rfl) N.g_Hall N.b_Hall___init__ .nil pass0 (pa_cons (pv 1) (pa_cons (pv 2) (pa_cons (pv 3) (pa_cons (pv 4) (pa_cons (pv 5) (pa_cons (pv 6) pa_nil)))))))))),
   fun B H0 as0 => ar1 fun things_1 => ⟨_, rfl,
 (blk_tg (vs := [1, 2, 3, 4, 5, 6]) (ev_var (i := 0) rfl) (pat6 (P := fun δ w => Blk _ _ δ w _ _) (by decide) (by decide) (by decide) (by decide) (by decide) (by decide) fun letters_2 rooms_here_3 first_4 ways_5 kind_6 by_here_7 =>
 (blk_ret (EvW.f (ev_make (c := "Hall") (ea_cons (ev_var (i := 1) rfl) (ea_cons (ev_var (i := 2) rfl) (ea_cons (ev_var (i := 3) rfl) (ea_cons (ev_var (i := 4) rfl) (ea_cons (ev_var (i := 5) rfl) (ea_cons (ev_var (i := 6) rfl) ea_nil)))))))))))⟩⟩

noncomputable def m__law_right (things_1 : U) : M U := fnM (.bind (op2 ixU (.ret things_1) (.ret (.int 0))) fun letters_2 => (.bind (op2 ixU (.ret things_1) (.ret (.int 1))) fun rooms_here_3 => (.bind (op2 ixU (.ret things_1) (.ret (.int 3))) fun ways_4 => (.bind (callM (L1 m__law_built) (consA (.ret things_1) nilA)) fun hall_here_5 => .bind (lstW nilA) fun counts_6 => (seqO (S := U) (.bind (rng1W (.ret rooms_here_3)) fun us => forO (fun room_8 s_7 => (seqO (S := U) (.bind (rng1W (.ret letters_2)) fun us => forO (fun letter_10 s_9 => (.bind (op1 tupleU (lcW (itW (.ret ways_4)) (fun way_14 => (testW (op2 eqU (slW (.ret way_14) noP (someP (.ret (.int 2)))) (tupW (consA (.ret room_8) (consA (.ret letter_10) nilA)))))) fun way_14 => (op2 ixU (.ret way_14) (.ret (.int 2))))) fun due_13 => (seqO (S := Unit) (iteW (testW (op2 neU (op1 reprU (methM "Hall" "ends" (L3 m_Hall_ends) (.ret hall_here_5) (consA (.ret room_8) (consA (.ret letter_10) nilA)))) (op1 reprU (.ret due_13)))) (rtO (.ret (.bl false))) (nxO ())) fun s_16 => (.bind (.bind (.ret (s_9, id)) fun h => .bind (consA (op1 lenU (.ret due_13)) nilA) fun xs => .o (mutL appL h xs)) fun p => (fun counts_17 => (nxO counts_17)) p.2)))) us s_7) fun s_9 => (iteW (testW (op2 neU (lcW (itW (tupW (consA (.ret letters_2) (consA (op2 addU (.ret letters_2) (.ret (.int 1))) (consA (.ret (.int 999999999)) nilA))))) (fun letter_18 => (.ret true)) fun letter_18 => (methM "Hall" "ends" (L3 m_Hall_ends) (.ret hall_here_5) (consA (.ret room_8) (consA (.ret letter_18) nilA)))) (lstW (consA (tupW nilA) (consA (tupW nilA) (consA (tupW nilA) nilA)))))) (rtO (.ret (.bl false))) (nxO s_9)))) us counts_6) fun s_7 => (.bind (lstW (consA (methM "Hall" "is_certain" (L1 m_Hall_is_certain) (.ret hall_here_5) nilA) (consA (methM "Hall" "is_certain" (L1 m_Hall_is_certain) (.ret hall_here_5) nilA) nilA))) fun found_21 => (rtO (op2 eqU (op1 reprU (.ret found_21)) (op1 reprU (op2 mulU (lstW (consA (op2 eqU (.ret s_7) (op2 mulU (lstW (consA (.ret (.int 1)) nilA)) (op1 lenU (.ret s_7)))) nilA)) (.ret (.int 2))))))))))))
theorem w__law_right {P : Program} {w : World} {K : PySem.W.Frag} {mg : Str → Option Value} {bs : Heap} (N : En w K mg) : FnG P w K mg bs CX0 10 (He.ga K "_law_right") N.fd__law_right ["_law_things"] (spM ⟨K, He.ga K⟩ (L1 m__law_right)) :=
  fn_ok N.F__law_right sc__law_right (ar1 fun _ => rfl) fun cv A o s H E gd hr => ⟨_, PSs.nox (pss_cons (ps_par3 (i := 1) (j := 2) (l := 3) (by rfl) sc__law_right.nd rfl rfl rfl (by decide) (by decide) (by decide) rfl rfl rfl (pa_cons (pe_ix (ix_seqK K) (pv 0) pe_int (fun _ _ => rfl)) (pa_cons (pe_ix (ix_seqK K) (pv 0) pe_int (fun _ _ => rfl)) (pa_cons (pe_ix (ix_seqK K) (pv 0) pe_int (fun _ _ => rfl)) pa_nil))) (by rfl))
 (pss_cons (ps_asg (pe_tup (pa_cons (pe_call (w__law_built N) (hr.mono (by decide)) (by rfl) N.g__law_built N.F__law_built.kp N.b__law_built .nil pass0 (pa_cons (pv 0) pa_nil)) (pa_cons (pe_lst pa_nil) pa_nil))) (pg_tup rfl (pgs_cons (pg_name (i := 4) sc__law_right.nd rfl (.inr rfl)) (pgs_cons (pg_name (i := 5) sc__law_right.nd rfl (.inl rfl)) pgs_nil))))
 (pss_cons (ps_for PassesOwn.never rfl (pi_range1 (by rfl) N.m_range (pa_cons (pv 2) pa_nil)) (pg_name (i := 6) sc__law_right.nd rfl (.inr rfl))
 (pss_cons (ps_for PassesOwn.never rfl (pi_range1 (by rfl) N.m_range (pa_cons (pv 1) pa_nil)) (pg_name (i := 7) sc__law_right.nd rfl (.inr rfl))
 (pss_cons (ps_set (i := 8) sc__law_right.nd rfl (.inl rfl) (pe_callTy (call_tupleK K) (by rfl) N.m_tuple (by decide +kernel) (pa_cons (pe_lc (own := [("_law_way", 10)]) (by rfl) sc__law_right.nd (pi_seqK K (pv 3)) (blkOk_by (own := [("_law_way", 10)]) (N := N__law_right) (sc := defScope s__law_right) (by decide +kernel)) (fun _ _ _ _ _ => (pg_name (i := 10) sc__law_right.nd rfl (.inl rfl))) (fun _ _ _ _ _ => (pts_one (pt_cmpR (op_eqK K hr.units) (pe_slice (sl_seqK K) (pv 10) po_none (po_some pe_int)) (pe_tup (pa_cons (pv 6) (pa_cons (pv 7) pa_nil))) (nomark _)))) (fun _ _ _ _ _ => (pe_ix (ix_seqK K) (pv 10) pe_int (fun _ _ => rfl)))) pa_nil)))
 (pss_cons (ps_if (pt_cmpR (op_neK K hr.units) (pe_callB (call_reprK K gd (rm66 hr)) (by rfl) N.m_repr (by decide +kernel) (pa_cons (pe_meth (pv 4) N.cl_Hall N.me_Hall_ends (w_Hall_ends N) (hr.mono (by decide)) N.b_Hall_ends .nil pass0 (pa_cons (pv 6) (pa_cons (pv 7) pa_nil))) pa_nil)) (pe_callB (call_reprK K gd (rm66 hr)) (by rfl) N.m_repr (by decide +kernel) (pa_cons (pv 8) pa_nil)) (nomark _))
 (pss_one (ps_ret pe_bl))
 pss_nil)
 (pss_one (ps_expr (pe_bm PySem.F.plainAttrs_list PySem.F.slot_list_append PySem.F.type_list_append mt_append (pv 5) (pa_cons (pe_callB (call_lenK K) (by rfl) N.m_len PySem.boot_len (pa_cons (pv 8) pa_nil)) pa_nil)))))))
 (pss_one (ps_if (pt_cmpR (op_neK K hr.units) (pe_lc (own := [("_law_letter", 7)]) (by rfl) sc__law_right.nd (pi_seqK K (pe_tup (pa_cons (pv 1) (pa_cons (pe_op (op_addK K) (pv 1) pe_int) (pa_cons pe_int pa_nil))))) (blkOk_by (own := [("_law_letter", 7)]) (N := N__law_right) (sc := defScope s__law_right) (by decide +kernel)) (fun _ _ _ _ _ => (pg_name (i := 7) sc__law_right.nd rfl (.inl rfl))) (fun _ _ _ _ _ => pts_nil) (fun _ _ _ _ _ => (pe_meth (pv 4) N.cl_Hall N.me_Hall_ends (w_Hall_ends N) (hr.mono (by decide)) N.b_Hall_ends .nil pass0 (pa_cons (pv 6) (pa_cons (pv 7) pa_nil))))) (pe_lst (pa_cons (pe_tup pa_nil) (pa_cons (pe_tup pa_nil) (pa_cons (pe_tup pa_nil) pa_nil)))) (nomark _))
 (pss_one (ps_ret pe_bl))
 pss_nil))))
 (pss_cons (ps_set (i := 9) sc__law_right.nd rfl (.inl rfl) (pe_lst (pa_cons (pe_meth0 (pv 4) N.cl_Hall N.me_Hall_is_certain (w_Hall_is_certain N) (hr.mono (by decide)) N.b_Hall_is_certain .nil pass0) (pa_cons (pe_meth0 (pv 4) N.cl_Hall N.me_Hall_is_certain (w_Hall_is_certain N) (hr.mono (by decide)) N.b_Hall_is_certain .nil pass0) pa_nil))))
 (pss_one (ps_ret (pe_cmpR (op_eqK K hr.units) (pe_callB (call_reprK K gd (rm66 hr)) (by rfl) N.m_repr (by decide +kernel) (pa_cons (pv 9) pa_nil)) (pe_callB (call_reprK K gd (rm66 hr)) (by rfl) N.m_repr (by decide +kernel) (pa_cons (pe_op (op_mulK K) (pe_lst (pa_cons (pe_cmpR (op_eqK K hr.units) (pv 5) (pe_op (op_mulK K) (pe_lst (pa_cons pe_int pa_nil)) (pe_callB (call_lenK K) (by rfl) N.m_len PySem.boot_len (pa_cons (pv 5) pa_nil))) (nomark _)) pa_nil)) pe_int) pa_nil)) (nomark _)))))))),
   fun B H0 as0 => ar1 fun things_1 => ⟨_, rfl,
 (blk_par3 (i0 := 1) (i1 := 2) (i2 := 3) (ev_op ok_ix (EvW.r (ev_var (i := 0) rfl)) (EvW.r ev_int)) (ev_op ok_ix (EvW.r (ev_var (i := 0) rfl)) (EvW.r ev_int)) (ev_op ok_ix (EvW.r (ev_var (i := 0) rfl)) (EvW.r ev_int)) fun letters_2 rooms_here_3 ways_4 =>
 (blk_asgWN (i0 := 4) (i1 := 5) (ev_call (ea_cons (ev_var (i := 0) rfl) ea_nil)) (en_lst ea_nil) fun hall_here_5 counts_6 =>
 (blk_seq (blk_forL (S := U) [6, 7, 8] [6] (fun s_7 => [some (.im things_1), some (.im letters_2), some (.im rooms_here_3), some (.im ways_4), some (.im hall_here_5), some (.own (.lst .leaf) s_7), none, none, none, none, none]) (by rfl) (src_range1 (EvW.r (ev_var (i := 2) rfl)))
 (fun s_7 room_8 st r q => ⟨_, tg_name (by decide), (blk_seq (blk_forL (S := U) [7, 8] [7] (fun s_9 => [some (.im things_1), some (.im letters_2), some (.im rooms_here_3), some (.im ways_4), some (.im hall_here_5), some (.own (.lst .leaf) s_9), some (.im room_8), none, none, none, none]) (by rfl) (src_range1 (EvW.r (ev_var (i := 1) rfl)))
 (fun s_9 letter_10 st r q => ⟨_, tg_name (by decide), (blk_set (i := 8) (ev_cb1 ok_tuple (EvW.r (EvN.ew (en_lc (by rfl) (src_it (ev_var (i := 3) rfl)) fun way_14 st r q => ⟨_, tg_name (by decide), (et_test (EvW.r (ev_op ok_eq (EvW.r (ev_sl (EvW.r (ev_var (i := 10) rfl)) eo_none (eo_some (EvW.r ev_int)))) (EvW.r (ev_tup (ea_cons (ev_var (i := 6) rfl) (ea_cons (ev_var (i := 7) rfl) ea_nil))))))), (ev_op ok_ix (EvW.r (ev_var (i := 10) rfl)) (EvW.r ev_int))⟩)))) fun due_13 =>
 (blk_seq (blk_ifL (S := Unit) (fun s_16 => [some (.im things_1), some (.im letters_2), some (.im rooms_here_3), some (.im ways_4), some (.im hall_here_5), some (.own (.lst .leaf) s_9), some (.im room_8), some (.im letter_10), some (.im due_13), none, none]) (et_test (EvW.r (ev_op ok_ne (EvW.r (ev_cb1 ok_repr (EvW.r (ev_meth (c := "Hall") (ev_var (i := 4) rfl) (ea_cons (ev_var (i := 6) rfl) (ea_cons (ev_var (i := 7) rfl) ea_nil)))))) (EvW.r (ev_cb1 ok_repr (EvW.r (ev_var (i := 8) rfl)))))))
 (blk_ret (EvW.f ev_bl))
 (blk_fin [] (by rfl))) fun s_16 =>
 (blk_last (blk_x (ex_mut mut_app (eh_slot (i := 5) rfl) (ea_cons (ev_cb1 ok_len (EvW.r (ev_var (i := 8) rfl))) ea_nil)) fun counts_17 =>
 (blk_fin [7, 8] (by rfl))))))⟩)) fun s_9 =>
 (blk_if (et_test (EvW.r (ev_op ok_ne (EvW.r (EvN.ew (en_lc (by rfl) (src_it (ev_tup (ea_cons (ev_var (i := 1) rfl) (ea_cons (ev_op ok_add (EvW.r (ev_var (i := 1) rfl)) (EvW.r ev_int)) (ea_cons ev_int ea_nil))))) fun letter_18 st r q => ⟨_, tg_name (by decide), et_yes, (ev_meth (c := "Hall") (ev_var (i := 4) rfl) (ea_cons (ev_var (i := 6) rfl) (ea_cons (ev_var (i := 7) rfl) ea_nil)))⟩))) (EvW.r (EvN.ew (en_lst (ea_cons (ev_tup ea_nil) (ea_cons (ev_tup ea_nil) (ea_cons (ev_tup ea_nil) ea_nil)))))))))
 (blk_ret (EvW.f ev_bl))
 (blk_fin [6, 7, 8] (by rfl))))⟩)) fun s_7 =>
 (blk_set (i := 9) (EvN.ew (en_lst (ea_cons (ev_meth (c := "Hall") (ev_var (i := 4) rfl) ea_nil) (ea_cons (ev_meth (c := "Hall") (ev_var (i := 4) rfl) ea_nil) ea_nil)))) fun found_21 =>
 (blk_ret (EvW.f (ev_op ok_eq (EvW.r (ev_cb1 ok_repr (EvW.r (ev_var (i := 9) rfl)))) (EvW.r (ev_cb1 ok_repr (EvW.r (ev_op ok_mul (EvW.r (EvN.ew (en_lst (ea_cons (ev_op ok_eq (ev_ownL (i := 5) rfl) (EvW.r (ev_op ok_mul (EvW.r (EvN.ew (en_lst (ea_cons ev_int ea_nil)))) (EvW.r (ev_cb1 ok_len (ev_ownL (i := 5) rfl)))))) ea_nil)))) (EvW.r ev_int))))))))))))⟩⟩

noncomputable def m_law (script_1 : U) : M U := fnM (.bind (callM (L1 m__law_hand) (consA (.ret script_1) nilA)) fun hand_here_2 => (seqO (S := Unit) (.bind (rng1W (.ret (.int 4))) fun us => forO (fun turn_4 s_3 => (.bind (op2 addU (.ret (.int 1)) (callM (L2' m__law_pick) (consA (.ret hand_here_2) (consA (.ret (.int 4)) nilA)))) fun letters_5 => (.bind (callM (L3 m__law_hall) (consA (.ret hand_here_2) (consA (.ret letters_5) (consA (.ret (.int 6)) nilA)))) fun u_28 => un6 u_28 fun letters_6 rooms_here_7 first_8 ways_9 kind_10 by_here_11 => (seqO (S := Unit) (iteW (notT (testW (callM (L1 m__law_right) (consA (tupW (consA (.ret letters_6) (consA (.ret rooms_here_7) (consA (.ret first_8) (consA (.ret ways_9) (consA (.ret kind_10) (consA (.ret by_here_11) nilA))))))) nilA)))) (rtO (.ret (.bl false))) (nxO ())) fun s_12 => (.bind (lcW (rng1W (op2 mulU (.ret rooms_here_7) (.ret letters_6))) (fun k_16 => (.ret true)) fun k_16 => (tupW (consA (op2 modU (.ret k_16) (.ret rooms_here_7)) (consA (op2 fdivU (.ret k_16) (.ret rooms_here_7)) nilA)))) fun spots_15 => (.bind (op1 tupleU (op1 sortTU (lcW (itW (.ret spots_15)) (fun spot_21 => (.ret true)) fun spot_21 => (op2 addU (.ret spot_21) (tupW (consA (callM (L2' m__law_pick) (consA (.ret hand_here_2) (consA (.ret rooms_here_7) nilA))) nilA)))))) fun just_20 => (.bind (callM (L2' m__law_pick) (consA (.ret hand_here_2) (consA (op1 lenU (.ret just_20)) nilA))) fun at_23 => (.bind (op1 tupleU (op1 sortSetU (op2 addU (.ret just_20) (tupW (consA (tupW (consA (op2 ixU (op2 ixU (.ret just_20) (.ret at_23)) (.ret (.int 0))) (consA (op2 ixU (op2 ixU (.ret just_20) (.ret at_23)) (.ret (.int 1))) (consA (callM (L2' m__law_pick) (consA (.ret hand_here_2) (consA (.ret rooms_here_7) nilA))) nilA)))) nilA))))) fun more_24 => (seqO (S := Unit) (.bind (itW (tupW (consA (.ret just_20) (consA (op2 addU (slW (.ret just_20) noP (someP (.ret at_23))) (slW (.ret just_20) (someP (op2 addU (.ret at_23) (.ret (.int 1)))) noP)) (consA (.ret more_24) nilA))))) fun us => forO (fun some_26 s_25 => (iteW (notT (testW (callM (L1 m__law_right) (consA (tupW (consA (.ret letters_6) (consA (.ret rooms_here_7) (consA (.ret first_8) (consA (.ret some_26) (consA (.ret kind_10) (consA (.ret by_here_11) nilA))))))) nilA)))) (rtO (.ret (.bl false))) (nxO ()))) us ()) fun s_25 => (nxO ())))))))))) us ()) fun s_3 => (rtO (.ret (.bl true)))))
theorem w_law {P : Program} {w : World} {K : PySem.W.Frag} {mg : Str → Option Value} {bs : Heap} (N : En w K mg) : FnG P w K mg bs CX0 11 (He.ga K "law") N.fd_law ["_law_script"] (spM ⟨K, He.ga K⟩ (L1 m_law)) :=
  fn_ok N.F_law sc_law (ar1 fun _ => rfl) fun cv A o s H E gd hr => ⟨_, PSs.nox (pss_cons (ps_set (i := 1) sc_law.nd rfl (.inr rfl) (pe_call (w__law_hand N) (hr.mono (by decide)) (by rfl) N.g__law_hand N.F__law_hand.kp N.b__law_hand .nil pass0 (pa_cons (pv 0) pa_nil)))
 (pss_cons (ps_for PassesOwn.never rfl (pi_range1 (by rfl) N.m_range (pa_cons pe_int pa_nil)) (pg_name (i := 2) sc_law.nd rfl (.inl rfl))
 (pss_cons (ps_set (i := 3) sc_law.nd rfl (.inl rfl) (pe_op (op_addK K) pe_int (pe_call (w__law_pick N) (hr.mono (by decide)) (by rfl) N.g__law_pick N.F__law_pick.kp N.b__law_pick .nil pass0 (pa_cons (pv 1) (pa_cons pe_int pa_nil)))))
 (pss_cons (ps_asg (pe_call (w__law_hall N) (hr.mono (by decide)) (by rfl) N.g__law_hall N.F__law_hall.kp N.b__law_hall .nil pass0 (pa_cons (pv 1) (pa_cons (pv 3) (pa_cons pe_int pa_nil)))) (pg_tup rfl (pgs_cons (pg_name (i := 3) sc_law.nd rfl (.inl rfl)) (pgs_cons (pg_name (i := 4) sc_law.nd rfl (.inr rfl)) (pgs_cons (pg_name (i := 5) sc_law.nd rfl (.inl rfl)) (pgs_cons (pg_name (i := 6) sc_law.nd rfl (.inl rfl)) (pgs_cons (pg_name (i := 7) sc_law.nd rfl (.inl rfl)) (pgs_cons (pg_name (i := 8) sc_law.nd rfl (.inl rfl)) pgs_nil))))))))
 (pss_cons (ps_if (pt_not (pt_val (pe_callG (w__law_right N) gd (hr.mono (by decide)) (by rfl) N.g__law_right N.F__law_right.kp N.b__law_right pass0 (pa_cons (pe_tup (pa_cons (pv 3) (pa_cons (pv 4) (pa_cons (pv 5) (pa_cons (pv 6) (pa_cons (pv 7) (pa_cons (pv 8) pa_nil))))))) pa_nil))))
 (pss_one (ps_ret pe_bl))
 pss_nil)
 (pss_cons (ps_setLc (i := 9) (own := [("_law_k", 14)]) (by rfl) sc_law.nd rfl rfl (sw_true rfl rfl rfl (by decide +kernel)) (pi_range1 (by rfl) N.m_range (pa_cons (pe_op (op_mulK K) (pv 4) (pv 3)) pa_nil)) (blkOk_by (own := [("_law_k", 14)]) (N := N_law) (sc := defScope s_law) (by decide +kernel)) (fun _ _ _ _ _ => (pg_name (i := 14) sc_law.nd rfl (.inl rfl))) (fun _ _ _ _ _ => pts_nil) (fun _ _ _ _ _ => (pe_tup (pa_cons (pe_op op_modN (pv 14) (pv 4)) (pa_cons (pe_op op_fdivN (pv 14) (pv 4)) pa_nil)))))
 (pss_cons (ps_set (i := 10) sc_law.nd rfl (.inl rfl) (pe_callTy (call_tupleK K) (by rfl) N.m_tuple (by decide +kernel) (pa_cons (pe_callB (cr_sortAny K) (by rfl) N.m_sorted (by decide +kernel) (pa_cons (pe_lc (own := [("_law_spot", 15)]) (by rfl) sc_law.nd (pi_seqK K (pv 9)) (blkOk_by (own := [("_law_spot", 15)]) (N := N_law) (sc := defScope s_law) (by decide +kernel)) (fun _ _ _ _ _ => (pg_name (i := 15) sc_law.nd rfl (.inl rfl))) (fun _ _ _ _ _ => pts_nil) (fun _ _ _ _ _ => (pe_op (op_addK K) (pv 15) (pe_tup (pa_cons (pe_call (w__law_pick N) (hr.mono (by decide)) (by rfl) N.g__law_pick N.F__law_pick.kp N.b__law_pick .nil pass0 (pa_cons (pv 1) (pa_cons (pv 4) pa_nil))) pa_nil))))) pa_nil)) pa_nil)))
 (pss_cons (ps_set (i := 11) sc_law.nd rfl (.inl rfl) (pe_call (w__law_pick N) (hr.mono (by decide)) (by rfl) N.g__law_pick N.F__law_pick.kp N.b__law_pick .nil pass0 (pa_cons (pv 1) (pa_cons (pe_callB (call_lenK K) (by rfl) N.m_len PySem.boot_len (pa_cons (pv 10) pa_nil)) pa_nil))))
 (pss_cons (ps_set (i := 12) sc_law.nd rfl (.inl rfl) (pe_callTy (call_tupleK K) (by rfl) N.m_tuple (by decide +kernel) (pa_cons (pe_callB (cr_sortedK K P w (by rfl)) (by rfl) N.m_sorted (by decide +kernel) (pa_cons (pe_callTy (cr_setOfTup K P w (by rfl) (rm66 hr)) (by rfl) N.m_set (by decide +kernel) (pa_cons (pe_op (op_addK K) (pv 10) (pe_tup (pa_cons (pe_tup (pa_cons (pe_ix (ix_seqK K) (pe_ix (ix_seqK K) (pv 10) (pv 11) (fun _ _ => rfl)) pe_int (fun _ _ => rfl)) (pa_cons (pe_ix (ix_seqK K) (pe_ix (ix_seqK K) (pv 10) (pv 11) (fun _ _ => rfl)) pe_int (fun _ _ => rfl)) (pa_cons (pe_call (w__law_pick N) (hr.mono (by decide)) (by rfl) N.g__law_pick N.F__law_pick.kp N.b__law_pick .nil pass0 (pa_cons (pv 1) (pa_cons (pv 4) pa_nil))) pa_nil)))) pa_nil))) pa_nil)) pa_nil)) pa_nil)))
 (pss_one (ps_for PassesOwn.never rfl (pi_seqK K (pe_tup (pa_cons (pv 10) (pa_cons (pe_op (op_addK K) (pe_slice (sl_seqK K) (pv 10) po_none (po_some (pv 11))) (pe_slice (sl_seqK K) (pv 10) (po_some (pe_op (op_addK K) (pv 11) pe_int)) po_none)) (pa_cons (pv 12) pa_nil))))) (pg_name (i := 13) sc_law.nd rfl (.inl rfl))
 (pss_one (ps_if (pt_not (pt_val (pe_callG (w__law_right N) gd (hr.mono (by decide)) (by rfl) N.g__law_right N.F__law_right.kp N.b__law_right pass0 (pa_cons (pe_tup (pa_cons (pv 3) (pa_cons (pv 4) (pa_cons (pv 5) (pa_cons (pv 13) (pa_cons (pv 7) (pa_cons (pv 8) pa_nil))))))) pa_nil))))
 (pss_one (ps_ret pe_bl))
 pss_nil))))))))))))
 (pss_one (ps_ret pe_bl)))),
   fun B H0 as0 => ar1 fun script_1 => ⟨_, rfl,
 (blk_set (i := 1) (ev_call (ea_cons (ev_var (i := 0) rfl) ea_nil)) fun hand_here_2 =>
 (blk_seq (blk_forL (S := Unit) [2, 3, 4, 5, 6, 7, 8, 9, 10, 11, 12, 13] [2] (fun s_3 => [some (.im script_1), some (.im hand_here_2), none, none, none, none, none, none, none, none, none, none, none, none, none, none]) (by rfl) (src_range1 (EvW.r ev_int))
 (fun s_3 turn_4 st r q => ⟨_, tg_name (by decide), (blk_set (i := 3) (ev_op ok_add (EvW.r ev_int) (EvW.r (ev_call (ea_cons (ev_var (i := 1) rfl) (ea_cons ev_int ea_nil))))) fun letters_5 =>
 (blk_tg (vs := [3, 4, 5, 6, 7, 8]) (ev_call (ea_cons (ev_var (i := 1) rfl) (ea_cons (ev_var (i := 3) rfl) (ea_cons ev_int ea_nil)))) (pat6 (P := fun δ w => Blk _ _ δ w _ _) (by decide) (by decide) (by decide) (by decide) (by decide) (by decide) fun letters_6 rooms_here_7 first_8 ways_9 kind_10 by_here_11 =>
 (blk_seq (blk_ifL (S := Unit) (fun s_12 => [some (.im script_1), some (.im hand_here_2), some (.im turn_4), some (.im letters_6), some (.im rooms_here_7), some (.im first_8), some (.im ways_9), some (.im kind_10), some (.im by_here_11), none, none, none, none, none, none, none]) (et_not (et_B (EvW.r (ev_call (ea_cons (ev_tup (ea_cons (ev_var (i := 3) rfl) (ea_cons (ev_var (i := 4) rfl) (ea_cons (ev_var (i := 5) rfl) (ea_cons (ev_var (i := 6) rfl) (ea_cons (ev_var (i := 7) rfl) (ea_cons (ev_var (i := 8) rfl) ea_nil))))))) ea_nil)))))
 (blk_ret (EvW.f ev_bl))
 (blk_fin [] (by rfl))) fun s_12 =>
 (blk_set (i := 9) (EvN.ew (en_lc (by rfl) (src_range1 (EvW.r (ev_op ok_mul (EvW.r (ev_var (i := 4) rfl)) (EvW.r (ev_var (i := 3) rfl))))) fun k_16 st r q => ⟨_, tg_name (by decide), et_yes, (ev_tup (ea_cons (ev_op ok_mod (EvW.r (ev_var (i := 14) rfl)) (EvW.r (ev_var (i := 4) rfl))) (ea_cons (ev_op ok_fdiv (EvW.r (ev_var (i := 14) rfl)) (EvW.r (ev_var (i := 4) rfl))) ea_nil)))⟩)) fun spots_15 =>
 (blk_set (i := 10) (ev_cb1 ok_tuple (EvW.r (ev_cb1 ok_sort (EvW.r (EvN.ew (en_lc (by rfl) (src_it (ev_var (i := 9) rfl)) fun spot_21 st r q => ⟨_, tg_name (by decide), et_yes, (ev_op ok_add (EvW.r (ev_var (i := 15) rfl)) (EvW.r (ev_tup (ea_cons (ev_call (ea_cons (ev_var (i := 1) rfl) (ea_cons (ev_var (i := 4) rfl) ea_nil))) ea_nil))))⟩)))))) fun just_20 =>
 (blk_set (i := 11) (ev_call (ea_cons (ev_var (i := 1) rfl) (ea_cons (ev_cb1 ok_len (EvW.r (ev_var (i := 10) rfl))) ea_nil))) fun at_23 =>
 (blk_set (i := 12) (ev_cb1 ok_tuple (EvW.r (ev_sortSet (EvW.r (ev_op ok_add (EvW.r (ev_var (i := 10) rfl)) (EvW.r (ev_tup (ea_cons (ev_tup (ea_cons (ev_op ok_ix (EvW.r (ev_op ok_ix (EvW.r (ev_var (i := 10) rfl)) (EvW.r (ev_var (i := 11) rfl)))) (EvW.r ev_int)) (ea_cons (ev_op ok_ix (EvW.r (ev_op ok_ix (EvW.r (ev_var (i := 10) rfl)) (EvW.r (ev_var (i := 11) rfl)))) (EvW.r ev_int)) (ea_cons (ev_call (ea_cons (ev_var (i := 1) rfl) (ea_cons (ev_var (i := 4) rfl) ea_nil))) ea_nil)))) ea_nil)))))))) fun more_24 =>
 (blk_last (blk_seq (blk_forL (S := Unit) [13] [13] (fun s_25 => [some (.im script_1), some (.im hand_here_2), some (.im turn_4), some (.im letters_6), some (.im rooms_here_7), some (.im first_8), some (.im ways_9), some (.im kind_10), some (.im by_here_11), some (.im spots_15), some (.im just_20), some (.im at_23), some (.im more_24), none, none, none]) (by rfl) (src_it (ev_tup (ea_cons (ev_var (i := 10) rfl) (ea_cons (ev_op ok_add (EvW.r (ev_sl (EvW.r (ev_var (i := 10) rfl)) eo_none (eo_some (EvW.r (ev_var (i := 11) rfl))))) (EvW.r (ev_sl (EvW.r (ev_var (i := 10) rfl)) (eo_some (EvW.r (ev_op ok_add (EvW.r (ev_var (i := 11) rfl)) (EvW.r ev_int)))) eo_none))) (ea_cons (ev_var (i := 12) rfl) ea_nil)))))
 (fun s_25 some_26 st r q => ⟨_, tg_name (by decide), (blk_if (et_not (et_B (EvW.r (ev_call (ea_cons (ev_tup (ea_cons (ev_var (i := 3) rfl) (ea_cons (ev_var (i := 4) rfl) (ea_cons (ev_var (i := 5) rfl) (ea_cons (ev_var (i := 13) rfl) (ea_cons (ev_var (i := 7) rfl) (ea_cons (ev_var (i := 8) rfl) ea_nil))))))) ea_nil)))))
 (blk_ret (EvW.f ev_bl))
 (blk_fin [13] (by rfl)))⟩)) fun s_25 =>
 (blk_fin [2, 3, 4, 5, 6, 7, 8, 9, 10, 11, 12, 13] (by rfl))))))))))))⟩)) fun s_3 =>
 (blk_ret (EvW.f ev_bl))))⟩⟩

/-! ### the hand -/
abbrev hs (cs : List Int) (s : Int) : Sto := [.lst [.lst (cs.map .int), .int s]]
def Hd (st : Sto) : Prop := ∃ (cs : List Int) (s : Int), st = hs cs s ∧ 0 ≤ s ∧ s < 2305843009213693951
abbrev c0 : M Cl := .bind (.bind (.ret (.loc 0)) locM) fun c => .bind (.ret (.int 0)) fun n => .o (ixC c n)
theorem c0_at (cs : List Int) (s : Int) : c0 (hs cs s) = some (.ok (0, (.lst (cs.map .int), fun x => .lst [x, .int s])), hs cs s) := rfl
theorem ixN0 (n : Nat) : ixN (n + 1) 0 = some 0 := by unfold ixN; rw [if_pos (by omega), if_pos (by omega)]; rfl
theorem ixC0 (i : Nat) (u : U) (us : List U) (f : U → U) : ixC (i, (.lst (u :: us), f)) (.int 0) = some (i, (u, fun x => f (.lst (x :: us)))) := by
  simp only [ixC, ixH, List.length_cons, ixN0]
  rfl
theorem c00_at (c : Int) (cs : List Int) (s : Int) : (M.bind c0 fun c => .bind (.ret (.int 0)) fun n => .o (ixC c n)) (hs (c :: cs) s) = some (.ok (0, (.int c, fun x => .lst [.lst (x :: cs.map .int), .int s])), hs (c :: cs) s) := by
  rw [M.bind_of (c0_at (c :: cs) s)]
  show M.o (ixC (0, (.lst (.int c :: cs.map .int), fun x => .lst [x, .int s])) (.int 0)) _ = _
  rw [ixC0]; rfl
theorem v00_at (c : Int) (cs : List Int) (s : Int) : (M.bind (M.bind c0 fun c => .bind (.ret (.int 0)) fun n => .o (ixC c n)) fun c => .o (valC c)) (hs (c :: cs) s) = some (.ok (.int c), hs (c :: cs) s) := by
  rw [M.bind_of (c00_at c cs s)]; rfl
theorem pick_ok {m : Int} {st : Sto} (h : Hd st) (h0 : 0 < m) (h1 : m < 1000000000) : Wp (m__law_pick (.loc 0) (.int m)) st fun u s => ∃ k : Int, u = .int k ∧ 0 ≤ k ∧ k < m ∧ Hd s := by
  obtain ⟨cs, s, rfl, b0, b1⟩ := h
  unfold m__law_pick
  refine .fn (.seq (Wp.mono (Q := fun o st => ∃ cs : List Int, o = .nx () ∧ st = hs cs s ∧ ∀ c r, cs = c :: r → c ≠ 0) (Wp.while (L := Unit) (fun n _ st => ∃ cs : List Int, n = cs.length ∧ st = hs cs s) ?_ (n := cs.length) ⟨cs, rfl, rfl⟩) ?_))
  · rintro n u _ ⟨cs, rfl, rfl⟩
    refine .and (.test (.eq (a := .bl (!cs.isEmpty)) (s := hs cs s) ?_ ⟨_, rfl, ?_⟩))
    · rw [M.bind_of (c0_at cs s)]
      show M.o (neU (.lst (cs.map .int)) (.lst [])) _ = _
      rw [neU_nil]; rfl
    cases cs with
    | nil => exact ⟨[], rfl, rfl, fun _ _ e => nomatch e⟩
    | cons c cs =>
      refine .test (.op2 (.eq (v00_at c cs s) (.ret ⟨_, eqU_int c 0, _, rfl, ?_⟩)))
      by_cases hc : c = 0
      · rw [decide_eq_true hc]
        refine .bind (.eq (c0_at (c :: cs) s) (.bind (.ret (.bind (.o (a := (.int c, (0, (.lst [.lst (cs.map .int), .int s], id)))) ?_ (.bind (.eq (a := ()) (s := hs cs s) rfl (.nx ⟨cs.length, by simp, cs, rfl, rfl⟩))))))))
        have hl : (List.map U.int (c :: cs)).all leafU = true := leaf_ints _
        have hl2 : (List.map U.int cs).all leafU = true := leaf_ints _
        simp only [mutC, hl, popAtL, List.map_cons, List.length_cons]
        simp [seqIndex?, leafU, hl2]
      · rw [decide_eq_false hc]
        exact ⟨c :: cs, rfl, rfl, fun _ _ e => by cases e; exact hc⟩
  · rintro o _ ⟨cs, rfl, rfl, hz⟩
    show Wp _ _ _
    refine .seq (.ite (.test (.eq (a := .bl (!cs.isEmpty)) (s := hs cs s) ?_ ⟨_, rfl, ?_⟩)))
    · rw [M.bind_of (c0_at cs s)]
      show M.o (neU (.lst (cs.map .int)) (.lst [])) _ = _
      rw [neU_nil]; rfl
    cases cs with
    | nil =>
      show Wp (nxO ()) _ _
      refine .nx ?_
      show Wp _ _ _
      have hm : CMul s 3935559000370003 := .inl (by omega)
      refine .bind (.op2 (.op2 (.op2 (.eq (a := .int s) (s := hs [] s) rfl (.ret ⟨_, mul_at hm, .ret ⟨_, rfl, .ret ⟨_, mod_at (by decide), ?_⟩⟩⟩)))))
      generalize e1 : (s * 3935559000370003 + 2691343689449507).fmod 2305843009213693951 = s1
      have k0 : 0 ≤ s1 := by rw [← e1]; exact Int.fmod_nonneg_of_pos _ (by decide)
      have k1 : s1 < 2305843009213693951 := by rw [← e1]; exact Int.fmod_lt_of_pos _ (by decide)
      refine .bind (.eq (a := (0, (_, id))) (s := hs [] s) rfl (.bind (.ret (.bind (.o (a := (0, (.lst [.lst [], .int s1], id))) rfl (.bind (.eq (a := ()) (s := hs [] s1) rfl ?_)))))))
      refine .bind (.op2 (.eq (a := .int s1) (s := hs [] s1) rfl (.ret ⟨_, fdiv_at (by decide) (by decide), ?_⟩)))
      generalize e2 : s1.fdiv 65537 = x
      have x0 : 0 ≤ x := by rw [← e2]; exact Int.fdiv_nonneg k0 (by decide)
      have x1 : x < 2305843009213693951 := by
        rw [← e2, Int.fdiv_eq_ediv_of_nonneg _ (by decide)]
        omega
      have hm2 : CMul x (x.fmod 8191 + 3) := .inl (by omega)
      refine .rt (.op2 (.op2 (.op2 (.op2 (.ret (.op2 (.op2 (.ret (.ret ⟨_, mod_at (by decide), .ret ⟨_, rfl, ⟨_, mul_at hm2, .ret ⟨_, mod_at (by decide), .ret ⟨_, fdiv_at (by decide) (by decide), .ret ⟨_, mod_at (by omega), ?_⟩⟩⟩⟩⟩⟩)))))))))
      exact ⟨_, rfl, Int.fmod_nonneg_of_pos _ h0, Int.fmod_lt_of_pos _ h0, [], s1, rfl, k0, k1⟩
    | cons c cs =>
      show Wp (M.bind _ _) _ _
      refine .bind (.op2 (.eq (v00_at c cs s) (.ret ⟨_, mod_at (by omega), ?_⟩)))
      refine .bind (.op2 (.eq (v00_at c cs s) (.ret ⟨_, fdiv_at (by omega) (by omega), ?_⟩)))
      refine .bind (.eq (c0_at (c :: cs) s) (.bind (.ret (.bind (.o (a := (0, (.lst [.lst (.int (c.fdiv m) :: cs.map .int), .int s], id))) ?_ (.bind (.eq (a := ()) (s := hs (c.fdiv m :: cs) s) rfl (.rt (.ret ?_)))))))))
      · simp only [setItC, List.map_cons, List.length_cons, ixN0]
        rfl
      · exact ⟨_, rfl, Int.fmod_nonneg_of_pos _ h0, Int.fmod_lt_of_pos _ h0, _, s, rfl, b0, b1⟩


theorem hand_ok {ns : List Int} (h : ns.length ≤ 63) : Wp (m__law_hand (.frl (ns.map .int))) [] fun u st => u = .loc 0 ∧ Hd st := by
  unfold m__law_hand
  have isI : ∀ (i : Nat) (u : U), (EL.cut (ns.map U.int) none (some 63))[i]? = some u → ∃ c : Int, u = .int c := fun i u e => by
    obtain ⟨c, _, rfl⟩ := List.mem_map.mp (EL.cut_sub (List.mem_of_getElem? e))
    exact ⟨c, rfl⟩
  have src : ∀ {Q : List U → Sto → Prop}, Q (EL.cut (ns.map U.int) none (some 63)) [] → Wp (itW (slW (.ret (.frl (ns.map .int))) noP (someP (.ret (.int 63))))) [] Q := fun q => ⟨_, _, rfl, q⟩
  refine .fn (.bind (.ret (.seq (.bind (src (Wp.for (fun _ s st => ∃ k : Int, s = .int k ∧ 0 ≤ k ∧ k < 2305843009213693951 ∧ st = []) ⟨23, rfl, by decide, by decide, rfl⟩ ?_ ?_))))))
  · rintro i u s st e ⟨k, rfl, k0, k1, rfl⟩
    obtain ⟨c, rfl⟩ := isI i u e
    have hm : CMul k 6364136223846793 := .inl (by omega)
    refine .bind (.op2 (.op2 (.op2 (.op2 (.ret (.ret ⟨_, mul_at hm, .op2 (.ret (.ret ⟨_, mod_at (by decide), ⟨_, rfl, .ret ⟨_, rfl, .ret ⟨_, mod_at (by decide), .nx ?_⟩⟩⟩⟩))⟩))))))
    exact ⟨_, rfl, Int.fmod_nonneg_of_pos _ (by decide), Int.fmod_lt_of_pos _ (by decide), rfl⟩
  · rintro s st ⟨k, rfl, k0, k1, rfl⟩
    show Wp _ _ _
    refine .rt (.bind (.lst (.consA (.bind (.lc (src (Wp.comp (fun i r st => r.length ≤ i ∧ (∃ cs : List Int, r = cs.map .int) ∧ st = []) ⟨Nat.le_refl _, ⟨[], rfl⟩, rfl⟩ ?_ ?_)))))))
    · rintro i u r st e ⟨hl, ⟨cs, rfl⟩, rfl⟩
      obtain ⟨c, rfl⟩ := isI i u e
      refine .test (.op2 (.ret (.op2 (.ret (.ret ⟨_, pow_at (i := 10) (j := 18) ⟨by decide, by decide, by decide⟩, _, rfl, _, rfl, ?_⟩)))))
      split
      · exact .ret ⟨by rw [List.length_append]; simpa using hl, ⟨cs ++ [c], by simp⟩, rfl⟩
      · exact ⟨by omega, ⟨cs, rfl⟩, rfl⟩
    · rintro r st ⟨hl, ⟨cs, rfl⟩, rfl⟩
      have hlen : (cs.map U.int).length ≤ sizeLine := by
        have h1 := EL.cut_len (xs := ns.map U.int) (lo := none) (hi := some 63)
        rw [List.length_map] at h1
        have : (63 : Nat) ≤ sizeLine := by decide
        omega
      refine ⟨hlen, .o (a := .lst (cs.map .int)) ?_ (.consA (.bind (.ret (.o (a := .int k) rfl (.nilA ⟨(by decide : 2 ≤ sizeLine), .bind (.o (a := _) rfl ⟨_, _, rfl, rfl, cs, k, rfl, k0, k1⟩)⟩)))))⟩
      simp only [flatO, leaf_ints, if_true]


theorem of_ok {us : List U} {st : Sto} (h : Hd st) (h0 : 0 < us.length) (h1 : us.length < 1000000000) : Wp (m__law_of (.loc 0) (.lst us)) st fun u s => u ∈ us ∧ Hd s := by
  unfold m__law_of
  refine .fn (.rt (.op2 (.ret (.call (.consA (.ret (.consA (.op1 (.ret ⟨.int us.length, rfl, .nilA ?_⟩)))))))))
  refine (pick_ok h (by omega) (by omega)).mono ?_
  rintro _ s ⟨k, rfl, k0, k1, hs⟩
  have hk : k.toNat < us.length := by omega
  refine ⟨us[k.toNat], ?_, List.getElem_mem hk, hs⟩
  show atI us k = _
  unfold atI ixN
  rw [if_pos k0, if_pos (by omega)]
  exact List.getElem?_eq_getElem hk
/-- rising rooms below n -/
def Rs (n : Int) (rs : List Int) : Prop := rs.Pairwise (· < ·) ∧ ∀ r ∈ rs, 0 ≤ r ∧ r < n
theorem rng_get {n : Int} {i : Nat} {u : U} (e : ((List.range n.toNat).map fun i => U.int (i : Nat))[i]? = some u) : u = .int (i : Nat) ∧ (i : Int) < n := by
  have hi : i < n.toNat := by have := getElem?_lt e; simpa using this
  rw [List.getElem?_map, List.getElem?_range hi] at e
  cases e
  exact ⟨rfl, by omega⟩
theorem rng_at {n : Int} (h0 : 0 ≤ n) (h1 : n < 1000000000) : rng1U (.int n) = some ((List.range n.toNat).map fun i => U.int (i : Nat)) := if_pos ⟨by omega, by omega⟩
theorem wp_rng {n : Int} {st : Sto} {Q : List U → Sto → Prop} (h0 : 0 ≤ n) (h1 : n < 1000000000) (q : Q ((List.range n.toNat).map fun i => U.int (i : Nat)) st) : Wp (rng1W (.ret (.int n))) st Q := .bind (.ret (.o (rng_at h0 h1) q))
theorem rooms_ok {n : Int} {st : Sto} (h : Hd st) (h0 : 0 ≤ n) (h1 : n < 100000) : Wp (m__law_rooms (.loc 0) (.int n)) st fun u s => ∃ rs : List Int, u = .tup (rs.map .int) ∧ Rs n rs ∧ Hd s := by
  unfold m__law_rooms
  refine .fn (.rt (.op1 (.lc (wp_rng h0 (by omega) (Wp.comp (fun i r st => ∃ rs : List Int, r = rs.map .int ∧ rs.Pairwise (· < ·) ∧ (∀ x ∈ rs, 0 ≤ x ∧ x < (i : Int) ∧ x < n) ∧ r.length ≤ i ∧ Hd st) ⟨[], rfl, .nil, (by simp), Nat.le_refl _, h⟩ ?_ ?_)))))
  · rintro i u r st e ⟨rs, rfl, pw, hb, hl, hd⟩
    obtain ⟨rfl, hi⟩ := rng_get e
    refine .test (.op2 (.call (.consA (.ret (.consA (.ret (.nilA ?_)))))))
    refine (pick_ok (m := 2) hd (by decide) (by decide)).mono ?_
    rintro _ s ⟨k, rfl, k0, k1, hs⟩
    refine .ret ⟨_, eqU_int k 0, _, rfl, ?_⟩
    split
    · refine .ret ⟨rs ++ [(i : Int)], by simp, ?_, ?_, by simpa using hl, hs⟩
      · rw [List.pairwise_append]
        exact ⟨pw, List.pairwise_singleton _ _, fun a ha b hb' => by rw [List.mem_singleton.mp hb']; exact (hb a ha).2.1⟩
      · intro x m
        rcases List.mem_append.mp m with m | m
        · have := hb x m; omega
        · rw [List.mem_singleton.mp m]; omega
    · exact ⟨rs, rfl, pw, fun x m => by have := hb x m; omega, by omega, hs⟩
  · rintro r st ⟨rs, rfl, pw, hb, hl, hd⟩
    refine ⟨?_, .tup (rs.map .int), rfl, rs, rfl, ⟨pw, fun x m => ⟨(hb x m).1, (hb x m).2.2⟩⟩, hd⟩
    have : (100000 : Nat) ≤ sizeLine := by decide
    simp only [List.length_map, List.length_range] at hl ⊢
    omega

/-! ### drawn halls -/
def pairU (p : List Int × List Int) : U := .tup [.tup (p.1.map .int), .tup (p.2.map .int)]
inductive ByOk (n : Int) : Str → U → Prop where
  | again {rs : List Int} (h : Rs n rs) : ByOk n "again" (.tup (rs.map .int))
  | last {rs : List Int} (h : Rs n rs) : ByOk n "at last" (.tup (rs.map .int))
  | pairs {ps : List (List Int × List Int)} (l : ps.length ≤ 4) (h : ∀ p ∈ ps, Rs n p.1 ∧ Rs n p.2) : ByOk n "pairs" (.tup (ps.map pairU))
  | ranks {rk : List Int} (l : (rk.length : Int) = n) (h : ∀ r ∈ rk, 0 ≤ r) : ByOk n "ranks" (.tup (rk.map .int))
def kinds4 : List U := [.str "again", .str "at last", .str "pairs", .str "ranks"]
theorem wp_pick {m : Int} {st : Sto} {Q : U → Sto → Prop} (h : Hd st) (h0 : 0 < m) (h1 : m < 1000000000) (k : ∀ (k : Int) (s : Sto), 0 ≤ k → k < m → Hd s → Q (.int k) s) : Wp (callM (L2' m__law_pick) (consA (.ret (.loc 0)) (consA (.ret (.int m)) nilA))) st Q :=
  .call (.consA (.ret (.consA (.ret (.nilA ((pick_ok h h0 h1).mono fun _ s ⟨a, e, a0, a1, hs⟩ => e ▸ k a s a0 a1 hs))))))
theorem wp_rooms {n : Int} {st : Sto} {Q : U → Sto → Prop} (h : Hd st) (h0 : 0 ≤ n) (h1 : n < 100000) (k : ∀ (rs : List Int) (s : Sto), Rs n rs → Hd s → Q (.tup (rs.map .int)) s) : Wp (callM (L2' m__law_rooms) (consA (.ret (.loc 0)) (consA (.ret (.int n)) nilA))) st Q :=
  .call (.consA (.ret (.consA (.ret (.nilA ((rooms_ok h h0 h1).mono fun _ s ⟨a, e, a0, hs⟩ => e ▸ k a s a0 hs))))))
theorem kind_eq : eqU (.str "again") (.str "pairs") = some (.bl false) ∧ eqU (.str "at last") (.str "pairs") = some (.bl false) ∧ eqU (.str "pairs") (.str "pairs") = some (.bl true) ∧ eqU (.str "ranks") (.str "pairs") = some (.bl false) ∧
    eqU (.str "again") (.str "ranks") = some (.bl false) ∧ eqU (.str "at last") (.str "ranks") = some (.bl false) ∧ eqU (.str "ranks") (.str "ranks") = some (.bl true) := ⟨eqU_str (by decide), eqU_str (by decide), eqU_str (by decide), eqU_str (by decide), eqU_str (by decide), eqU_str (by decide), eqU_str (by decide)⟩
theorem by_ok {n : Int} {kind : Str} {st : Sto} (hk : U.str kind ∈ kinds4) (h : Hd st) (h0 : 0 ≤ n) (h1 : n < 100000) : Wp (m__law_by (.loc 0) (.str kind) (.int n)) st fun u s => ByOk n kind u ∧ Hd s := by
  unfold m__law_by
  obtain ⟨e1, e2, e3, e4, e5, e6, e7⟩ := kind_eq
  have hk' : kind = "again" ∨ kind = "at last" ∨ kind = "pairs" ∨ kind = "ranks" := by simpa [kinds4] using hk
  rcases hk' with rfl | rfl | rfl | rfl
  · refine .fn (.seq (.ite (.test (.op2 (.ret (.ret ⟨_, e1, _, rfl, ?_⟩))))))
    refine .nx (.seq (.ite (.test (.op2 (.ret (.ret ⟨_, e5, _, rfl, ?_⟩))))))
    exact .nx (.rt (wp_rooms h h0 h1 fun rs s hr hs => ⟨.again hr, hs⟩))
  · refine .fn (.seq (.ite (.test (.op2 (.ret (.ret ⟨_, e2, _, rfl, ?_⟩))))))
    refine .nx (.seq (.ite (.test (.op2 (.ret (.ret ⟨_, e6, _, rfl, ?_⟩))))))
    exact .nx (.rt (wp_rooms h h0 h1 fun rs s hr hs => ⟨.last hr, hs⟩))
  · refine .fn (.seq (.ite (.test (.op2 (.ret (.ret ⟨_, e3, _, rfl, ?_⟩))))))
    refine .rt (.op1 (.lc (.bind (wp_pick h (by decide) (by decide) fun k s k0 k1 hs => .o (rng_at k0 (by omega)) ?_))))
    refine Wp.comp (fun i r st => ∃ ps : List (List Int × List Int), r = ps.map pairU ∧ ps.length = i ∧ (∀ p ∈ ps, Rs n p.1 ∧ Rs n p.2) ∧ Hd st) ⟨[], rfl, rfl, (by simp), hs⟩ ?_ ?_
    · rintro i u r st e ⟨ps, rfl, hl, hp, hd⟩
      refine .ret (.tup (.consA (wp_rooms hd h0 h1 fun a s ha hs => .consA (wp_rooms hs h0 h1 fun b s hb hs => .nilA ⟨(by decide : 2 ≤ sizeLine), ps ++ [(a, b)], ?_, ?_, ?_, hs⟩))))
      · simp [pairU]
      · simp [hl]
      · intro p m
        rcases List.mem_append.mp m with m | m
        · exact hp p m
        · rw [List.mem_singleton.mp m]; exact ⟨ha, hb⟩
    · rintro r st ⟨ps, rfl, hl, hp, hd⟩
      rw [List.length_map, List.length_range] at hl
      have : (100000 : Nat) ≤ sizeLine := by decide
      exact ⟨by rw [List.length_map]; omega, _, rfl, .pairs (by omega) hp, hd⟩
  · refine .fn (.seq (.ite (.test (.op2 (.ret (.ret ⟨_, e4, _, rfl, ?_⟩))))))
    refine .nx (.seq (.ite (.test (.op2 (.ret (.ret ⟨_, e7, _, rfl, ?_⟩))))))
    refine .rt (.op1 (.lc (wp_rng h0 (by omega) (Wp.comp (fun i r st => ∃ rk : List Int, r = rk.map .int ∧ rk.length = i ∧ (∀ x ∈ rk, 0 ≤ x) ∧ Hd st) ⟨[], rfl, rfl, (by simp), h⟩ ?_ ?_))))
    · rintro i u r st e ⟨rk, rfl, hl, hp, hd⟩
      refine .ret (wp_pick hd (by decide) (by decide) fun k s k0 k1 hs => ⟨rk ++ [k], by simp, by simp [hl], fun x m => ?_, hs⟩)
      rcases List.mem_append.mp m with m | m
      · exact hp x m
      · rw [List.mem_singleton.mp m]; exact k0
    · rintro r st ⟨rk, rfl, hl, hp, hd⟩
      rw [List.length_map, List.length_range] at hl
      have : (100000 : Nat) ≤ sizeLine := by decide
      exact ⟨by rw [List.length_map]; omega, _, rfl, .ranks (by omega) hp, hd⟩

def Tri (n L : Int) (w : List Int) : Prop := ∃ r l e : Int, w = [r, l, e] ∧ 0 ≤ r ∧ r < n ∧ 0 ≤ l ∧ l < L ∧ 0 ≤ e ∧ e < n
def lexLt : List Int → List Int → Prop
  | [r, l, e], [r', l', e'] => r < r' ∨ (r = r' ∧ (l < l' ∨ (l = l' ∧ e < e')))
  | _, _ => False
def WOk (n L : Int) (W : List (List Int)) : Prop := (∀ w ∈ W, Tri n L w) ∧ W.Pairwise lexLt
/-- what stands ahead of room i, letter j -/
def Ahd (i j : Int) (W : List (List Int)) : Prop := ∀ w ∈ W, ∃ r l e : Int, w = [r, l, e] ∧ (r < i ∨ (r = i ∧ l < j))
theorem wok_more {n L i j : Int} {W : List (List Int)} {es : List Int} (h : WOk n L W) (ha : Ahd i j W) (hi : 0 ≤ i ∧ i < n) (hj : 0 ≤ j ∧ j < L) (he : Rs n es) : WOk n L (W ++ es.map fun e => [i, j, e]) ∧ Ahd i (j + 1) (W ++ es.map fun e => [i, j, e]) := by
  refine ⟨⟨fun w m => ?_, ?_⟩, fun w m => ?_⟩
  · rcases List.mem_append.mp m with m | m
    · exact h.1 w m
    · obtain ⟨e, me, rfl⟩ := List.mem_map.mp m
      have := he.2 e me
      exact ⟨i, j, e, rfl, hi.1, hi.2, hj.1, hj.2, this.1, this.2⟩
  · rw [List.pairwise_append]
    refine ⟨h.2, List.pairwise_map.mpr (he.1.imp fun h => .inr ⟨rfl, .inr ⟨rfl, h⟩⟩), fun a ma b mb => ?_⟩
    obtain ⟨r, l, e, rfl, q⟩ := ha a ma
    obtain ⟨e', me, rfl⟩ := List.mem_map.mp mb
    rcases q with q | ⟨q1, q2⟩
    · exact .inl q
    · exact .inr ⟨q1, .inl q2⟩
  · rcases List.mem_append.mp m with m | m
    · obtain ⟨r, l, e, rfl, q⟩ := ha w m
      exact ⟨r, l, e, rfl, by omega⟩
    · obtain ⟨e, me, rfl⟩ := List.mem_map.mp m
      exact ⟨i, j, e, rfl, by omega⟩
structure HallOk (L n : Int) (u : U) : Prop where
  ex : ∃ (s : Int) (W : List (List Int)) (kind : Str) (B : U), u = .tup [.int L, .int n, .int s, .tup (W.map tupI), .str kind, B] ∧ 0 ≤ s ∧ s < n ∧ WOk n L W ∧ U.str kind ∈ kinds4 ∧ ByOk n kind B
theorem wp_by {n : Int} {kind : Str} {st : Sto} {Q : U → Sto → Prop} (hk : U.str kind ∈ kinds4) (h : Hd st) (h0 : 0 ≤ n) (h1 : n < 100000) (k : ∀ u s, ByOk n kind u → Hd s → Q u s) : Wp (callM (L3 m__law_by) (consA (.ret (.loc 0)) (consA (.ret (.str kind)) (consA (.ret (.int n)) nilA)))) st Q :=
  .call (.consA (.ret (.consA (.ret (.consA (.ret (.nilA ((by_ok hk h h0 h1).mono fun u s ⟨a, hs⟩ => k u s a hs))))))))
theorem filt_ok {n c : Int} {st : Sto} {Q : U → Sto → Prop} (h : Hd st) (h0 : 0 ≤ n) (h1 : n < 100000) (c0 : 0 < c) (c1 : c < 100000) (q : ∀ (rs : List Int) (s : Sto), Rs n rs → (rs.length : Int) ≤ n → Hd s → Q (.lst (rs.map .int)) s) : Wp (lcW (rng1W (.ret (.int n))) (fun x => testW (op2 eqU (callM (L2' m__law_pick) (consA (.ret (.loc 0)) (consA (.ret (.int c)) nilA))) (.ret (.int 0)))) fun x => .ret x) st Q := by
  refine .lc (wp_rng h0 (by omega) (Wp.comp (fun i r st => ∃ rs : List Int, r = rs.map .int ∧ rs.Pairwise (· < ·) ∧ (∀ x ∈ rs, 0 ≤ x ∧ x < (i : Int) ∧ x < n) ∧ r.length ≤ i ∧ Hd st) ⟨[], rfl, .nil, (by simp), Nat.le_refl _, h⟩ ?_ ?_))
  · rintro i u r st e ⟨rs, rfl, pw, hb, hl, hd⟩
    obtain ⟨rfl, hi⟩ := rng_get e
    refine .test (.op2 (wp_pick hd c0 (by omega) fun k s k0 k1 hs => .ret ⟨_, eqU_int k 0, _, rfl, ?_⟩))
    split
    · refine .ret ⟨rs ++ [(i : Int)], by simp, ?_, ?_, by simpa using hl, hs⟩
      · rw [List.pairwise_append]
        exact ⟨pw, List.pairwise_singleton _ _, fun a ha b hb' => by rw [List.mem_singleton.mp hb']; exact (hb a ha).2.1⟩
      · intro x m
        rcases List.mem_append.mp m with m | m
        · have := hb x m; omega
        · rw [List.mem_singleton.mp m]; omega
    · exact ⟨rs, rfl, pw, fun x m => by have := hb x m; omega, by omega, hs⟩
  · rintro r st ⟨rs, rfl, pw, hb, hl, hd⟩
    have : (100000 : Nat) ≤ sizeLine := by decide
    simp only [List.length_map, List.length_range] at hl
    exact ⟨by rw [List.length_map]; omega, q rs st ⟨pw, fun x m => ⟨(hb x m).1, (hb x m).2.2⟩⟩ (by omega) hd⟩
theorem hall_ok {L m : Int} {st : Sto} (h : Hd st) (l0 : 1 ≤ L) (l1 : L ≤ 10) (m0 : 1 ≤ m) (m1 : m ≤ 100) : Wp (m__law_hall (.loc 0) (.int L) (.int m)) st fun u s => (∃ n : Int, 1 ≤ n ∧ n ≤ m ∧ HallOk L n u) ∧ Hd s := by
  have sz : (1000000 : Nat) ≤ sizeLine := by decide
  unfold m__law_hall
  refine .fn (.bind (.op2 (.ret (wp_pick h (by omega) (by omega) fun k s k0 k1 hs => ⟨.int (1 + k), rfl, ?_⟩))))
  generalize en : 1 + k = n
  have n0 : 1 ≤ n := by omega
  have n1 : n ≤ m := by omega
  refine .bind (.call (.consA (.ret (.consA (.lst (.consA (.ret (.consA (.ret (.consA (.ret (.consA (.ret (.nilA ⟨(by decide : 4 ≤ sizeLine), .nilA ((of_ok hs (by decide) (by decide)).mono ?_)⟩))))))))))))))
  rintro ku s ⟨hk, hs⟩
  obtain ⟨kind, rfl⟩ : ∃ kind, ku = .str kind := by
    simp only [List.mem_cons, List.not_mem_nil, or_false] at hk
    rcases hk with e | e | e | e <;> exact ⟨_, e⟩
  have hk4 : U.str kind ∈ kinds4 := hk
  refine .bind (.tup (.consA (.op2 (.ret (wp_pick hs (by decide) (by decide) fun k s k0 k1 hs => ⟨.int (2 + k), rfl, .consA (wp_pick hs (by decide) (by decide) fun f s f0 f1 hs => .consA (.lst (.nilA ⟨by decide, .nilA ⟨(by decide : 3 ≤ sizeLine), ?_⟩⟩)))⟩)))))
  show Wp _ _ _
  generalize ec : 2 + k = c
  have c0 : 2 ≤ c := by omega
  have c1 : c < 10 := by omega
  refine .seq (.bind (wp_rng (by omega) (by omega) (Wp.for (fun i s st => ∃ W : List (List Int), s = .lst (W.map tupI) ∧ WOk n L W ∧ Ahd i 0 W ∧ W.length ≤ i * 1000 ∧ Hd st) ⟨[], rfl, ⟨by simp, .nil⟩, (fun w m => nomatch m), by simp, hs⟩ ?_ ?_)))
  · rintro i u s st e ⟨W, rfl, hW, hA, hl, hd⟩
    obtain ⟨rfl, hi⟩ := rng_get e
    refine .seq (.bind (wp_rng (by omega) (by omega) (Wp.for (fun j s st => ∃ W : List (List Int), s = .lst (W.map tupI) ∧ WOk n L W ∧ Ahd i j W ∧ W.length ≤ i * 1000 + j * 100 ∧ Hd st) ⟨W, rfl, hW, hA, by omega, hd⟩ ?_ ?_)))
    · rintro j u s st e ⟨W, rfl, hW, hA, hl, hd⟩
      obtain ⟨rfl, hj⟩ := rng_get e
      refine .bind (Wp.mono (Q := fun u s => ∃ es : List Int, u = .lst (es.map .int) ∧ Rs n es ∧ es.length ≤ 100 ∧ Hd s) ?_ ?_)
      · exact filt_ok hd (by omega) (by omega) (by omega) (by omega) fun rs s hr hl hs => ⟨rs, rfl, hr, by omega, hs⟩
      rintro _ s ⟨es, rfl, he, hel, hs⟩
      refine .seq (Wp.mono (Q := fun o s => ∃ es : List Int, o = .nx (.lst (es.map .int)) ∧ Rs n es ∧ es.length ≤ 100 ∧ Hd s) ?_ ?_)
      · refine .ite (Wp.mono (Q := fun _ s => Hd s) ?_ ?_)
        · refine .or (.test (.op2 (.ret (.ret ⟨_, eqU_int f 2, _, rfl, ?_⟩))))
          split
          · exact hs
          · refine .and (.test (.op2 (.ret (.ret ⟨_, eqU_int f 1, _, rfl, ?_⟩))))
            split
            · exact .test (.op2 (.ret (.lst (.nilA ⟨by decide, ⟨_, eqU_nil es, _, rfl, hs⟩⟩))))
            · exact hs
        · intro b s hs
          split
          · refine .bind (.lst (.consA (wp_pick hs (by omega) (by omega) fun k s k0 k1 hs => .nilA ⟨(by decide : 1 ≤ sizeLine), .nx ⟨[k], rfl, ⟨List.pairwise_singleton _ _, fun r m => ?_⟩, (by decide : 1 ≤ 100), hs⟩⟩)))
            rw [List.mem_singleton.mp m]; exact ⟨k0, k1⟩
          · exact .nx ⟨es, rfl, he, hel, hs⟩
      rintro _ s ⟨es, rfl, he, hel, hs⟩
      show Wp _ _ _
      obtain ⟨w1, w2⟩ := wok_more hW hA ⟨by omega, hi⟩ ⟨by omega, hj⟩ he
      refine .bind (.op2 (.ret (.lc (.bind (.ret (.o (a := es.map .int) rfl (Wp.comp (fun k r st => r = (es.take k).map (fun e => tupI [(i : Int), (j : Int), e]) ∧ Hd st) ⟨rfl, hs⟩ ?_ ?_)))))))
      · rintro k u r st e ⟨rfl, hd⟩
        rw [List.getElem?_map] at e
        obtain ⟨x, ex, rfl⟩ := Option.map_eq_some_iff.mp e
        refine .ret (.tup (.consA (.ret (.consA (.ret (.consA (.ret (.nilA ⟨(by decide : 3 ≤ sizeLine), ?_, hd⟩))))))))
        rw [List.take_add_one, ex]
        simp [tupI]
      · rintro r st ⟨rfl, hd⟩
        rw [List.length_map, show (List.map U.int es).length = es.length from List.length_map _, List.take_length]
        refine ⟨by omega, _, if_pos (by rw [List.length_map, List.length_map]; omega), .nx ⟨W ++ es.map fun e => [(i : Int), (j : Int), e], by simp [Function.comp_def], w1, w2, ?_, hd⟩⟩
        rw [List.length_append, List.length_map]
        omega
    · rintro s st ⟨W, rfl, hW, hA, hl, hd⟩
      refine .nx ⟨W, rfl, hW, fun w m => ?_, ?_, hd⟩
      · obtain ⟨r, l, e, rfl, q⟩ := hA w m
        exact ⟨r, l, e, rfl, .inl (by omega)⟩
      · rw [List.length_map, List.length_range] at hl
        omega
  · rintro s st ⟨W, rfl, hW, hA, hl, hd⟩
    show Wp _ _ _
    refine .rt (.tup (.consA (.ret (.consA (.ret (.consA (wp_pick hd (by omega) (by omega) fun k s k0 k1 hs => .consA (.op1 (.ret ⟨_, rfl, .consA (.ret (.consA (wp_by hk4 hs (by omega) (by omega) fun B s hB hs => .nilA ⟨(by decide : 6 ≤ sizeLine), ?_⟩)))⟩)))))))))
    exact ⟨⟨n, n0, n1, k, W, kind, B, rfl, k0, k1, hW, hk4, hB⟩, hs⟩

/-! ### what is looked at -/
theorem wp_ret {α : Type} {w : M α} {a : α} {st : Sto} {Q : α → Sto → Prop} (e : w = .ret a) (q : Q a st) : Wp w st Q := e ▸ .ret q
theorem whole_eq (i : Int) : m_is_whole (.int i) = .ret (.bl true) := rfl
theorem below_eq {i n : Int} (h0 : 0 ≤ i) (h1 : i < n) : m_is_below (.int i) (.int n) = .ret (.bl true) := by
  have e : m_is_below (.int i) (.int n) = fnM (rtO (M.bind (M.o (boolU (.bl (decide (0 ≤ i))))) fun k => if k = true then M.o (ltU (.int i) (.int n)) else .ret (.bl false))) := rfl
  rw [e, decide_eq_true h0]
  show fnM (rtO (M.o (some (U.bl (decide (i < n)))))) = _
  rw [decide_eq_true h1]
  rfl
theorem comp_map {wt : U → M Bool} {we : U → M U} {f : U → U} : ∀ {us : List U}, (∀ u ∈ us, wt u = .ret true ∧ we u = .ret (f u)) → compM wt we us = .ret (us.map f)
  | [], _ => rfl
  | u :: us, h => by
    rw [compM, (h u List.mem_cons_self).1]
    show M.bind (we u) _ = _
    rw [(h u List.mem_cons_self).2]
    show M.bind (compM wt we us) _ = _
    rw [comp_map fun v m => h v (List.mem_cons_of_mem _ m)]
    rfl
theorem bools_true : ∀ (n : Nat), boolsU (List.replicate n (U.bl true)) = some (List.replicate n true)
  | 0 => rfl
  | n + 1 => by rw [List.replicate_succ, boolsU, bools_true n]; rfl
theorem all_true (n : Nat) : allU (.lst (List.replicate n (U.bl true))) = some (.bl true) := by
  simp only [allU, bools_true, Option.map_some]
  congr 2
  simp
theorem map_true {α : Type} (us : List α) : us.map (fun _ => U.bl true) = List.replicate us.length (U.bl true) := by
  rw [List.map_const']
theorem lc_true {wl : M (List U)} {wt : U → M Bool} {we : U → M U} {us : List U} (hl : wl = .ret us) (hs : us.length ≤ sizeLine) (h : ∀ u ∈ us, wt u = .ret true ∧ we u = .ret (.bl true)) : op1 allU (lcW wl wt we) = .ret (.bl true) := by
  unfold op1 lcW
  rw [hl]
  show M.bind (M.bind (compM wt we us) fun r => .o (szU r)) (fun a => .o (allU a)) = _
  rw [comp_map (f := fun _ => .bl true) h]
  show M.bind (M.o (szU (us.map fun _ => U.bl true))) (fun a => M.o (allU a)) = _
  rw [map_true, szU, if_pos (by rw [List.length_replicate]; exact hs)]
  show M.o (allU _) = _
  rw [all_true]; rfl
theorem pd_row (ns : List Int) : pd (tupI ns) = some (.tuple (ns.map PyData.int)) := by simp [tupI, pd, pdAll_ints]
theorem ltU_row {a b : List Int} (h : lexLt a b) : ltU (tupI a) (tupI b) = some (.bl true) := by
  match a, b, h with
  | [r, l, e], [r', l', e'], h =>
    have e0 : ltU (tupI [r, l, e]) (tupI [r', l', e']) = (match pd (tupI [r, l, e]), pd (tupI [r', l', e']) with
      | some d, some e => if PySem.W.alike d e = true ∧ notNone d = true ∧ d.depth ≤ 64 then some (U.bl (PySem.W.dataLt d e)) else none
      | _, _ => none) := rfl
    rw [e0, pd_row, pd_row]
    simp only
    rw [if_pos ⟨by simp [PySem.W.alike, PySem.W.alikeAll], rfl, by simp [PyData.depth, PyData.depthAll]⟩]
    congr 2
    simp only [List.map_cons, List.map_nil]
    rw [PySem.W.dataLt_tuple]
    by_cases z : r = r'
    · rw [PySem.W.dataLt_all_yes (by simp [PySem.W.alike]) (by simp [PyData.eqv, z])]
      by_cases y : l = l'
      · rw [PySem.W.dataLt_all_yes (by simp [PySem.W.alike]) (by simp [PyData.eqv, y])]
        have q : e < e' := by simp only [lexLt] at h; omega
        have ne : e ≠ e' := by omega
        rw [PySem.W.dataLt_all_no (by simp [PySem.W.alike]) (by simp [PyData.eqv, ne]), PySem.W.dataLt_int]
        exact decide_eq_true q
      · have q : l < l' := by simp only [lexLt] at h; omega
        rw [PySem.W.dataLt_all_no (by simp [PySem.W.alike]) (by simp [PyData.eqv, y]), PySem.W.dataLt_int]
        exact decide_eq_true q
    · have q : r < r' := by simp only [lexLt] at h; omega
      rw [PySem.W.dataLt_all_no (by simp [PySem.W.alike]) (by simp [PyData.eqv, z]), PySem.W.dataLt_int]
      exact decide_eq_true q
theorem rising_eq {us : List U} (hl : us.length ≤ 1000000) (h : ∀ (i : Nat) (a b : U), us[i]? = some a → us[i + 1]? = some b → ltU a b = some (.bl true)) : m_are_rising (.tup us) = .ret (.bl true) := by
  have sz : (1000000 : Nat) ≤ sizeLine := by decide
  unfold m_are_rising
  have hz : zipW (.ret (.tup us)) (slW (.ret (.tup us)) (someP (.ret (.int 1))) noP) = .ret (zipL us (us.drop 1)) := by
    show M.o (some (zipL us (EL.cut us (some ((1 : Nat) : Int)) none))) = _
    rw [EL.cut_from]; rfl
  have key : op1 allU (lcW (zipW (.ret (.tup us)) (slW (.ret (.tup us)) (someP (.ret (.int 1))) noP)) (fun e => un2 e fun a b => .ret true) fun e => un2 e fun a b => op2 ltU (.ret a) (.ret b)) = .ret (.bl true) := by
    refine lc_true hz (by rw [zipL_len]; omega) fun u m => ?_
    obtain ⟨i, hi⟩ := List.getElem?_of_mem m
    obtain ⟨x, y, e1, e2, rfl⟩ := zipL_get hi
    rw [List.getElem?_drop, Nat.add_comm] at e2
    refine ⟨rfl, ?_⟩
    show M.o (ltU x y) = _
    rw [h i x y e1 e2]; rfl
  rw [key]; rfl
theorem rise_ints {n : Int} {rs : List Int} (h : Rs n rs) (i : Nat) (a b : U) (ha : (rs.map U.int)[i]? = some a) (hb : (rs.map U.int)[i + 1]? = some b) : ltU a b = some (.bl true) := by
  rw [List.getElem?_map] at ha hb
  obtain ⟨x, ex, rfl⟩ := Option.map_eq_some_iff.mp ha
  obtain ⟨y, ey, rfl⟩ := Option.map_eq_some_iff.mp hb
  have hi := getElem?_lt ex
  have hj := getElem?_lt ey
  have := List.pairwise_iff_getElem.mp h.1 i (i + 1) hi hj (by omega)
  rw [List.getElem?_eq_getElem hi] at ex
  rw [List.getElem?_eq_getElem hj] at ey
  cases ex; cases ey
  show some (U.bl (decide (_ < _))) = _
  rw [decide_eq_true this]
theorem rooms_eq {n : Int} {rs : List Int} (h : Rs n rs) (hl : rs.length ≤ 100000) : m_are_rooms (.int n) (.tup (rs.map .int)) = .ret (.bl true) := by
  have sz : (1000000 : Nat) ≤ sizeLine := by decide
  have e1 : op1 allU (lcW (itW (.ret (.tup (rs.map .int)))) (fun _ => (.ret true)) fun one => (callM (L2' m_is_below) (consA (.ret one) (consA (.ret (.int n)) nilA)))) = .ret (.bl true) := by
    refine lc_true (us := rs.map .int) rfl (by rw [List.length_map]; omega) fun u m => ⟨rfl, ?_⟩
    obtain ⟨r, mr, rfl⟩ := List.mem_map.mp m
    exact below_eq (h.2 r mr).1 (h.2 r mr).2
  have e2 : m_are_rising (.tup (rs.map .int)) = .ret (.bl true) := rising_eq (by rw [List.length_map]; omega) (rise_ints h)
  have e3 : m_are_rising_below (.tup (rs.map .int)) (.int n) = .ret (.bl true) := by
    unfold m_are_rising_below
    rw [e1]
    show fnM (rtO (m_are_rising (.tup (rs.map .int)))) = _
    rw [e2]; rfl
  show fnM (rtO (m_are_rising_below (.tup (rs.map .int)) (.int n))) = _
  rw [e3]; rfl

theorem rise_len : ∀ (rs : List Int) (lo n : Int), rs.Pairwise (· < ·) → (∀ r ∈ rs, lo ≤ r ∧ r < n) → (rs.length : Int) ≤ max 0 (n - lo)
  | [], lo, n, _, _ => by simp; omega
  | r :: rs, lo, n, pw, h => by
    obtain ⟨p1, p2⟩ := List.pairwise_cons.mp pw
    have ih := rise_len rs (r + 1) n p2 fun x m => ⟨by have := p1 x m; omega, (h x (List.mem_cons_of_mem _ m)).2⟩
    have hr := h r List.mem_cons_self
    rw [List.length_cons]
    omega
theorem Rs.len {n : Int} {rs : List Int} (h : Rs n rs) (h0 : 0 ≤ n) : (rs.length : Int) ≤ n := by
  have := rise_len rs 0 n h.1 h.2
  omega
theorem ranks_eq {n : Int} {rk : List Int} (hl : (rk.length : Int) = n) (h1 : n ≤ 1000) (h : ∀ r ∈ rk, 0 ≤ r) : m_are_ranks (.int n) (.tup (rk.map .int)) = .ret (.bl true) := by
  have sz : (1000000 : Nat) ≤ sizeLine := by decide
  unfold m_are_ranks
  have e1 : op1 allU (lcW (itW (.ret (.tup (rk.map .int)))) (fun _ => (.ret true)) fun one => (andW (callM (L1 m_is_whole) (consA (.ret one) nilA)) (op2 geU (.ret one) (.ret (.int 0))))) = .ret (.bl true) := by
    refine lc_true (us := rk.map .int) rfl (by rw [List.length_map]; omega) fun u m => ⟨rfl, ?_⟩
    obtain ⟨r, mr, rfl⟩ := List.mem_map.mp m
    show M.o (some (U.bl (decide (0 ≤ r)))) = _
    rw [decide_eq_true (h r mr)]; rfl
  have e2 : op2 eqU (op1 lenU (.ret (.tup (rk.map .int)))) (.ret (.int n)) = .ret (.bl true) := by
    show M.o (eqU (.int ((rk.map U.int).length : Nat)) (.int n)) = _
    rw [eqU_int, List.length_map, decide_eq_true hl]; rfl
  rw [e1, e2]; rfl
theorem forO_nx {L : Type} {f : U → Unit → M (Out Unit Unit)} : ∀ {us : List U}, (∀ u ∈ us, f u () = nxO ()) → forO (L := L) f us () = nxO ()
  | [], _ => rfl
  | u :: us, h => by
    rw [forO, h u List.mem_cons_self]
    exact forO_nx fun v m => h v (List.mem_cons_of_mem _ m)
theorem neU_int (i j : Int) : neU (.int i) (.int j) = some (.bl (!decide (i = j))) := by
  show neD (.int i) (.int j) = _
  unfold neD
  rw [show pd (.int i) = some (.int i) from rfl, show pd (.int j) = some (.int j) from rfl]
  have h : ∀ i : Int, SeqAt.shaped (.int i) = true := fun i => by simp [SeqAt.shaped, PyData.canLay0, PyData.depth]
  simp only [h, and_self, if_true]
  simp only [PyData.eqv]
  rfl
theorem pairs_eq {n : Int} {ps : List (List Int × List Int)} (h0 : 0 ≤ n) (h1 : n ≤ 1000) (h : ∀ p ∈ ps, Rs n p.1 ∧ Rs n p.2) : m_are_pairs (.int n) (.tup (ps.map pairU)) = .ret (.bl true) := by
  unfold m_are_pairs
  have key : ∀ u ∈ ps.map pairU, (iteW (orT (notT (testW (op1 (isiU · "tuple") (.ret u)))) (orT (testW (op2 neU (op1 lenU (.ret u)) (.ret (.int 2)))) (notT (testW (op1 allU (lcW (itW (.ret u)) (fun _ => (.ret true)) fun part => (callM (L2' m_are_rooms) (consA (.ret (.int n)) (consA (.ret part) nilA))))))))) (rtO (.ret (.bl false))) (nxO ()) : M (Out Unit Unit)) = nxO () := by
    intro u m
    obtain ⟨p, mp, rfl⟩ := List.mem_map.mp m
    have hp := h p mp
    have l1 := hp.1.len h0
    have l2 := hp.2.len h0
    have e1 : op1 allU (lcW (itW (.ret (pairU p))) (fun _ => (.ret true)) fun part => (callM (L2' m_are_rooms) (consA (.ret (.int n)) (consA (.ret part) nilA)))) = .ret (.bl true) := by
      refine lc_true (us := [.tup (p.1.map .int), .tup (p.2.map .int)]) rfl (by decide : 2 ≤ sizeLine) fun u m => ⟨rfl, ?_⟩
      simp only [List.mem_cons, List.not_mem_nil, or_false] at m
      rcases m with rfl | rfl
      · exact rooms_eq hp.1 (by omega)
      · exact rooms_eq hp.2 (by omega)
    rw [e1]
    show iteW (orT (.ret false) (orT (testW (.o (neU (.int 2) (.int 2)))) (.ret false))) _ _ = _
    rw [neU_int]; rfl
  show fnM (seqO (S := Unit) (forO (L := Unit) _ (ps.map pairU) ()) fun _ => rtO (.ret (.bl true))) = _
  rw [forO_nx key]; rfl
theorem ways_eq {n L : Int} {W : List (List Int)} (hW : WOk n L W) (hl : W.length ≤ 1000000) : m_are_ways (.int L) (.int n) (.tup (W.map tupI)) = .ret (.bl true) := by
  unfold m_are_ways
  have e2 : m_are_rising (.tup (W.map tupI)) = .ret (.bl true) := by
    refine rising_eq (by rw [List.length_map]; exact hl) fun i a b ha hb => ?_
    rw [List.getElem?_map] at ha hb
    obtain ⟨x, ex, rfl⟩ := Option.map_eq_some_iff.mp ha
    obtain ⟨y, ey, rfl⟩ := Option.map_eq_some_iff.mp hb
    have hi := getElem?_lt ex
    have hj := getElem?_lt ey
    have := List.pairwise_iff_getElem.mp hW.2 i (i + 1) hi hj (by omega)
    rw [List.getElem?_eq_getElem hi] at ex
    rw [List.getElem?_eq_getElem hj] at ey
    cases ex; cases ey
    exact ltU_row this
  have key : ∀ u ∈ W.map tupI, (seqO (S := Unit) (iteW (orT (notT (testW (op1 (isiU · "tuple") (.ret u)))) (testW (op2 neU (op1 lenU (.ret u)) (.ret (.int 3))))) (rtO (.ret (.bl false))) (nxO ())) fun _ => (iteW (orT (notT (testW (callM (L2' m_is_below) (consA (op2 ixU (.ret u) (.ret (.int 0))) (consA (.ret (.int n)) nilA))))) (orT (notT (testW (callM (L2' m_is_below) (consA (op2 ixU (.ret u) (.ret (.int 1))) (consA (.ret (.int L)) nilA))))) (notT (testW (callM (L2' m_is_below) (consA (op2 ixU (.ret u) (.ret (.int 2))) (consA (.ret (.int n)) nilA))))))) (rtO (.ret (.bl false))) (nxO ())) : M (Out Unit Unit)) = nxO () := by
    intro u m
    obtain ⟨w, mw, rfl⟩ := List.mem_map.mp m
    obtain ⟨r, l, e, rfl, r0, r1, l0, l1, e0, e1⟩ := hW.1 w mw
    show seqO (S := Unit) (iteW (orT (.ret false) (testW (.o (neU (.int 3) (.int 3))))) _ _) (fun _ => iteW (orT (notT (testW (m_is_below (.int r) (.int n)))) (orT (notT (testW (m_is_below (.int l) (.int L)))) (notT (testW (m_is_below (.int e) (.int n)))))) _ _) = _
    rw [neU_int, below_eq r0 r1, below_eq l0 l1, below_eq e0 e1]; rfl
  show fnM (seqO (S := Unit) (forO (L := Unit) _ (W.map tupI) ()) fun _ => rtO (m_are_rising (.tup (W.map tupI)))) = _
  rw [forO_nx key, e2]; rfl


theorem fault_eq {n L s : Int} {W : List (List Int)} {kind : Str} {B : U} (l0 : 1 ≤ L) (l1 : L ≤ 4) (n0 : 1 ≤ n) (n1 : n ≤ 1000) (s0 : 0 ≤ s) (s1 : s < n) (hW : WOk n L W) (hl : W.length ≤ 1000000) (hB : ByOk n kind B) : m_fault_of (.int L) (.int n) (.int s) (.tup (W.map tupI)) (.str kind) B = .ret .non := by
  unfold m_fault_of
  have e1 : chainW leU leU (.ret (.int 1)) (.ret (.int L)) (.ret (.int 4)) = .ret (.bl true) := by
    show M.bind (M.o (boolU (.bl (decide (1 ≤ L))))) (fun k => if k = true then M.o (leU (.int L) (.int 4)) else .ret (.bl false)) = _
    rw [decide_eq_true l0]
    show M.o (some (U.bl (decide (L ≤ 4)))) = _
    rw [decide_eq_true l1]; rfl
  have e2 : op2 ltU (.ret (.int n)) (.ret (.int 1)) = .ret (.bl false) := by
    show M.o (some (U.bl (decide (n < 1)))) = _
    rw [decide_eq_false (by omega)]; rfl
  have e3 : callM (L2' m_is_below) (consA (.ret (.int s)) (consA (.ret (.int n)) nilA)) = .ret (.bl true) := below_eq s0 s1
  have e4 : callM (L3 m_are_ways) (consA (.ret (.int L)) (consA (.ret (.int n)) (consA (.ret (.tup (W.map tupI))) nilA))) = .ret (.bl true) := ways_eq hW hl
  rw [e1, e2, e3, e4]
  cases hB with
  | again h =>
    have e5 := rooms_eq h (by have := h.len (by omega); omega)
    show fnM (rtO (iteW (testW (m_are_rooms _ _)) _ _)) = _
    rw [e5]; rfl
  | last h =>
    have e5 := rooms_eq h (by have := h.len (by omega); omega)
    show fnM (rtO (iteW (testW (m_are_rooms _ _)) _ _)) = _
    rw [e5]; rfl
  | pairs l h =>
    have e5 := pairs_eq (by omega) n1 h
    show fnM (rtO (iteW (testW (m_are_pairs _ _)) _ _)) = _
    rw [e5]; rfl
  | ranks l h =>
    have e5 := ranks_eq l n1 h
    show fnM (rtO (iteW (testW (m_are_ranks _ _)) _ _)) = _
    rw [e5]; rfl

/-! ### goals: for each room a dict of letters -/
abbrev Dc : Type := List (Int × List Int)
def dKs (D : Dc) : List Key := D.map fun p => Sum.inl p.1
def dVs (D : Dc) : List U := D.map fun p => U.lst (p.2.map .int)
def dU (D : Dc) : U := .dct (dKs D) (dVs D)
def dAdd (l e : Int) : Dc → Dc
  | [] => [(l, [e])]
  | (k, xs) :: r => if k = l then (k, xs ++ [e]) :: r else (k, xs) :: dAdd l e r
def dGet (l : Int) : Dc → List Int
  | [] => []
  | (k, xs) :: r => if k = l then xs else dGet l r
theorem dGet_add (l l' e : Int) : ∀ D : Dc, dGet l (dAdd l' e D) = if l' = l then dGet l D ++ [e] else dGet l D
  | [] => by
    simp only [dAdd, dGet]
    split <;> simp
  | (k, xs) :: r => by
    simp only [dAdd]
    by_cases h : k = l'
    · rw [if_pos h]
      simp only [dGet]
      by_cases h2 : k = l
      · rw [if_pos h2, if_pos h2, if_pos (by omega)]
      · rw [if_neg h2, if_neg h2, if_neg (by omega)]
    · rw [if_neg h]
      simp only [dGet]
      by_cases h2 : k = l
      · rw [if_pos h2, if_pos h2, if_neg (by omega)]
      · rw [if_neg h2, if_neg h2, dGet_add l l' e r]
theorem idx_none {l e : Int} : ∀ {D : Dc}, idxK (Sum.inl l : Key) (dKs D) = none → dAdd l e D = D ++ [(l, [e])] ∧ dGet l D = []
  | [], _ => ⟨rfl, rfl⟩
  | (k, xs) :: r, h => by
    by_cases hk : k = l
    · subst hk
      simp [dKs, idxK] at h
    · have hne : ¬ (Sum.inl k : Key) = Sum.inl l := fun z => hk (Sum.inl.inj z)
      simp only [dKs, List.map_cons, idxK, if_neg hne, Option.map_eq_none_iff] at h
      obtain ⟨h1, h2⟩ := idx_none (e := e) (D := r) h
      simp only [dAdd, dGet, if_neg hk, h1, h2]
      exact ⟨rfl, trivial⟩
theorem idx_some {l e : Int} : ∀ {D : Dc} {j : Nat}, idxK (Sum.inl l : Key) (dKs D) = some j → (dVs D)[j]? = some (.lst ((dGet l D).map .int)) ∧ dKs (dAdd l e D) = dKs D ∧ dVs (dAdd l e D) = (dVs D).set j (.lst ((dGet l D ++ [e]).map .int))
  | [], _, h => by cases h
  | (k, xs) :: r, j, h => by
    by_cases hk : k = l
    · subst hk
      simp only [dKs, List.map_cons, idxK, if_true] at h
      cases h
      simp only [dAdd, dGet, if_true]
      exact ⟨rfl, rfl, rfl⟩
    · have hne : ¬ (Sum.inl k : Key) = Sum.inl l := fun z => hk (Sum.inl.inj z)
      simp only [dKs, List.map_cons, idxK, if_neg hne, Option.map_eq_some_iff] at h
      obtain ⟨i, h1, rfl⟩ := h
      obtain ⟨q1, q2, q3⟩ := idx_some (e := e) (D := r) h1
      simp only [dAdd, dGet, if_neg hk]
      refine ⟨by simpa [dVs] using q1, ?_, ?_⟩
      · show Sum.inl k :: dKs (dAdd l e r) = Sum.inl k :: dKs r
        rw [q2]
      · show U.lst (xs.map .int) :: dVs (dAdd l e r) = _
        rw [q3]; rfl
theorem get_eq (l : Int) (D : Dc) : getD2 (dU D) (.int l) (.lst []) = some (.lst ((dGet l D).map .int)) := by
  unfold getD2 dU
  simp only [getU, keyU]
  cases h : idxK (Sum.inl l : Key) (dKs D) with
  | none => rw [(idx_none (e := 0) h).2]; rfl
  | some j => simp only [(idx_some (e := 0) h).1]; rfl
theorem sd_eq {l e : Int} {D : Dc} (h1 : D.length < 100000) (h2 : (dGet l D).length < 100000) : sdAppU (dU D) (.int l) (.int e) = some (dU (dAdd l e D)) := by
  have sz : (1000000 : Nat) ≤ sizeLine := by decide
  unfold dU
  simp only [sdAppU, keyU]
  rw [if_pos ⟨by simp only [dKs, List.length_map]; omega, rfl⟩]
  cases h : idxK (Sum.inl l : Key) (dKs D) with
  | none =>
    simp only
    rw [(idx_none (e := e) h).1]
    simp [dKs, dVs]
  | some j =>
    obtain ⟨q1, q2, q3⟩ := idx_some (e := e) h
    simp only [q1]
    rw [if_pos ⟨by rw [List.length_map]; omega, leaf_ints _⟩, q2, q3]
    simp

def oneEnd (r l : Int) : List Int → Option Int
  | [r', l', e] => if r' = r ∧ l' = l then some e else none
  | _ => none
def endsOf (W : List (List Int)) (r l : Int) : List Int := W.filterMap (oneEnd r l)
def hNames : List Str := ["letters", "rooms", "start", "ways", "kind", "by", "goals"]
def hallObj (L n s : Int) (W : List (List Int)) (kind : Str) (B : U) (G : List Dc) : U := .obj "Hall" hNames [.int L, .int n, .int s, .tup (W.map tupI), .str kind, B, .lst (G.map dU)]
/-- G holds the goals of W -/
structure GOk (n : Int) (W : List (List Int)) (G : List Dc) : Prop where
  len : (G.length : Int) = n
  at_ : ∀ (r : Nat) (D : Dc), G[r]? = some D → D.length ≤ W.length ∧ ∀ l : Int, dGet l D = endsOf W r l
theorem ends_len (W : List (List Int)) (r l : Int) : (endsOf W r l).length ≤ W.length := List.length_filterMap_le _ _
theorem ends_snoc (W : List (List Int)) (a b e r l : Int) : endsOf (W ++ [[a, b, e]]) r l = if a = r ∧ b = l then endsOf W r l ++ [e] else endsOf W r l := by
  unfold endsOf
  rw [List.filterMap_append]
  by_cases h : a = r ∧ b = l
  · simp [oneEnd, h]
  · simp [oneEnd, h]
theorem dAdd_len (l e : Int) : ∀ D : Dc, (dAdd l e D).length ≤ D.length + 1
  | [] => by simp [dAdd]
  | (k, xs) :: r => by
    simp only [dAdd]
    split
    · simp
    · have := dAdd_len l e r
      simp only [List.length_cons]
      omega
theorem gok_snoc {n a b e : Int} {W : List (List Int)} {G : List Dc} {D : Dc} (h : GOk n W G) (ha : 0 ≤ a) (hD : G[a.toNat]? = some D) : GOk n (W ++ [[a, b, e]]) (G.set a.toNat (dAdd b e D)) := by
  refine ⟨by rw [List.length_set]; exact h.len, fun r D' e' => ?_⟩
  rw [List.length_append]
  by_cases hr : a.toNat = r
  · subst hr
    rw [List.getElem?_set_self (getElem?_lt hD)] at e'
    cases e'
    obtain ⟨h1, h2⟩ := h.at_ _ D hD
    refine ⟨by have := dAdd_len b e D; simp; omega, fun l => ?_⟩
    rw [dGet_add, ends_snoc, h2 l]
    have : ((a.toNat : Nat) : Int) = a := by omega
    rw [this]
    by_cases hb : b = l
    · rw [if_pos hb, if_pos ⟨rfl, hb⟩]
    · rw [if_neg hb, if_neg fun z => hb z.2]
  · rw [List.getElem?_set_ne hr] at e'
    obtain ⟨h1, h2⟩ := h.at_ r D' e'
    refine ⟨by omega, fun l => ?_⟩
    rw [ends_snoc, if_neg (by omega), h2 l]


theorem ixC_at {i j : Nat} {us : List U} {u : U} {f : U → U} (h : us[j]? = some u) : ixC (i, (.lst us, f)) (.int (j : Nat)) = some (i, (u, fun x => f (.lst (us.set j x)))) := by
  have hl := getElem?_lt h
  simp only [ixC, ixH]
  rw [show ixN us.length ((j : Nat) : Int) = some j from by unfold ixN; rw [if_pos (by omega), if_pos (by omega)]; rfl]
  simp only [h]
  rfl
theorem by_leaf {n : Int} {kind : Str} {B : U} (h : ByOk n kind B) : leafO B = some B := by cases h <;> rfl
theorem init_ok {n L s : Int} {W : List (List Int)} {kind : Str} {B : U} (l0 : 1 ≤ L) (l1 : L ≤ 4) (n0 : 1 ≤ n) (n1 : n ≤ 1000) (s0 : 0 ≤ s) (s1 : s < n) (hW : WOk n L W) (hl : W.length < 50000) (hB : ByOk n kind B) :
    Wp (m_Hall___init__ (.loc 1) (.int L) (.int n) (.int s) (.tup (W.map tupI)) (.str kind) B) [.loc 0, .obj "Hall" [] []] fun u st => ∃ G : List Dc, u = .non ∧ st = [.loc 0, hallObj L n s W kind B G] ∧ GOk n W G := by
  have sz : (1000000 : Nat) ≤ sizeLine := by decide
  unfold m_Hall___init__
  refine .fn (.bind (wp_ret (w := callM (L6 m_fault_of) _) (fault_eq l0 l1 n0 n1 s0 s1 hW (by omega) hB) (.seq (.ite (.test (.bind (.ret (.ret ⟨_, rfl, ?_⟩))))))))
  show Wp (nxO ()) _ _
  refine .nx ?_
  refine .bind (.eq (a := .int L) (s := [.loc 0, .obj "Hall" [] []]) rfl (.bind (.eq rfl (.bind (.o rfl (.bind (.eq (a := ()) (s := [.loc 0, .obj "Hall" ["letters"] [.int L]]) rfl ?_)))))))
  refine .bind (.eq (a := .int n) rfl (.bind (.eq rfl (.bind (.o rfl (.bind (.eq (a := ()) (s := [.loc 0, .obj "Hall" ["letters", "rooms"] [.int L, .int n]]) rfl ?_)))))))
  refine .bind (.eq (a := .int s) rfl (.bind (.eq rfl (.bind (.o rfl (.bind (.eq (a := ()) (s := [.loc 0, .obj "Hall" ["letters", "rooms", "start"] [.int L, .int n, .int s]]) rfl ?_)))))))
  refine .bind (.eq (a := .tup (W.map tupI)) rfl (.bind (.eq rfl (.bind (.o rfl (.bind (.eq (a := ()) (s := [.loc 0, .obj "Hall" ["letters", "rooms", "start", "ways"] [.int L, .int n, .int s, .tup (W.map tupI)]]) rfl ?_)))))))
  refine .bind (.eq (a := .str kind) rfl (.bind (.eq rfl (.bind (.o rfl (.bind (.eq (a := ()) (s := [.loc 0, .obj "Hall" ["letters", "rooms", "start", "ways", "kind"] [.int L, .int n, .int s, .tup (W.map tupI), .str kind]]) rfl ?_)))))))
  refine .bind (.bind (.ret (.o (by_leaf hB) (.bind (.eq rfl (.bind (.o rfl (.bind (.eq (a := ()) (s := [.loc 0, .obj "Hall" ["letters", "rooms", "start", "ways", "kind", "by"] [.int L, .int n, .int s, .tup (W.map tupI), .str kind, B]]) rfl ?_)))))))))
  refine .bind (.lc (wp_rng (by omega) (by omega) (wp_ret (comp_map (f := fun _ => .dct [] []) fun u m => ⟨rfl, rfl⟩) ⟨by rw [List.length_map, List.length_map, List.length_range]; omega, ?_⟩)))
  rw [show List.map (fun _ => U.dct [] []) ((List.range n.toNat).map fun i => U.int (i : Nat)) = (List.replicate n.toNat ([] : Dc)).map dU from by rw [List.map_const', List.map_replicate, List.length_map, List.length_range]; rfl]
  refine .bind (.eq rfl (.bind (.o rfl (.bind (.eq (a := ()) (s := [.loc 0, hallObj L n s W kind B (List.replicate n.toNat [])]) rfl ?_)))))
  refine .seq (.bind (.eq (a := W.map tupI) (s := [.loc 0, hallObj L n s W kind B (List.replicate n.toNat [])]) rfl (Wp.for (fun i _ st => ∃ G : List Dc, st = [.loc 0, hallObj L n s W kind B G] ∧ GOk n (W.take i) G) ⟨_, rfl, ?_⟩ ?_ ?_)))
  · refine ⟨by rw [List.length_replicate]; omega, fun r D e => ?_⟩
    have : D = [] := by
      have := List.mem_of_getElem? e
      exact (List.mem_replicate.mp this).2
    subst this
    exact ⟨by simp, fun l => rfl⟩
  · rintro i u _ st e ⟨G, rfl, hG⟩
    rw [List.getElem?_map] at e
    obtain ⟨w, ew, rfl⟩ := Option.map_eq_some_iff.mp e
    obtain ⟨a, b, c, rfl, a0, a1, b0, b1, c0, c1⟩ := hW.1 w (List.mem_of_getElem? ew)
    have hi := getElem?_lt ew
    have hlen := hG.len
    have ha : a.toNat < G.length := by omega
    have hD : G[a.toNat]? = some G[a.toNat] := List.getElem?_eq_getElem ha
    generalize G[a.toNat] = D at hD
    obtain ⟨d1, d2⟩ := hG.at_ _ D hD
    have d3 := ends_len (W.take i) a.toNat b
    rw [List.length_take] at d1 d3
    have ea : ((a.toNat : Nat) : Int) = a := by omega
    show Wp (M.bind _ _) _ _
    refine .bind (.eq (a := (1, (dU D, fun x => .obj "Hall" hNames [.int L, .int n, .int s, .tup (W.map tupI), .str kind, B, .lst ((G.map dU).set a.toNat x)]))) (s := [.loc 0, hallObj L n s W kind B G]) ?_ (.bind (.ret (.bind (.o (sd_eq (by omega) (by rw [d2]; omega)) (.bind (.eq (a := ()) (s := [.loc 0, hallObj L n s W kind B (G.set a.toNat (dAdd b c D))]) ?_ (.nx ⟨_, rfl, ?_⟩))))))))
    · rw [M.bind_of (show _ = some (Res.ok ((1, (U.lst (G.map dU), fun x => U.obj "Hall" hNames [.int L, .int n, .int s, .tup (W.map tupI), .str kind, B, x])) : Cl), _) from rfl)]
      show M.o (ixC _ (.int a)) _ = _
      rw [← ea, ixC_at (by rw [List.getElem?_map, hD]; rfl), ea]
      rfl
    · show some (Res.ok (), _) = _
      unfold hallObj
      rw [List.map_set]
      rfl
    · rw [List.take_add_one, ew]
      exact gok_snoc hG a0 hD
  · rintro _ st ⟨G, rfl, hG⟩
    rw [List.length_map, List.take_length] at hG
    exact .nx ⟨G, rfl, rfl, hG⟩

theorem nlA_map {α : Type} {f : α → U} (h : ∀ a, nlU (f a) = true) : ∀ l : List α, nlA (l.map f) = true
  | [] => rfl
  | a :: l => by simp [nlA, h a, nlA_map h l]
theorem nl_ints (l : List Int) : nlA (l.map U.int) = true := nlA_map (fun _ => rfl) l
theorem nl_by {n : Int} {kind : Str} {B : U} (h : ByOk n kind B) : nlU B = true := by
  cases h with
  | again => exact nl_ints _
  | last => exact nl_ints _
  | ranks => exact nl_ints _
  | pairs => exact nlA_map (fun p => by simp [pairU, nlU, nlA, nl_ints]) _
theorem nl_hall {L n s : Int} {W : List (List Int)} {kind : Str} {B : U} {G : List Dc} (hB : ByOk n kind B) : nlU (hallObj L n s W kind B G) = true := by
  have h1 : nlA (W.map tupI) = true := nlA_map (f := tupI) (fun w => show nlA (w.map U.int) = true from nl_ints w) W
  have h2 : nlA (G.map dU) = true := nlA_map (f := dU) (fun D => show nlA (dVs D) = true from nlA_map (f := fun p : Int × List Int => U.lst (p.2.map .int)) (fun p => show nlA (p.2.map U.int) = true from nl_ints p.2) D) G
  simp [hallObj, nlU, nlA, h1, h2, nl_by hB]
theorem built_ok {n L s : Int} {W : List (List Int)} {kind : Str} {B : U} {st : Sto} (hd : Hd st) (l0 : 1 ≤ L) (l1 : L ≤ 4) (n0 : 1 ≤ n) (n1 : n ≤ 1000) (s0 : 0 ≤ s) (s1 : s < n) (hW : WOk n L W) (hl : W.length < 50000) (hB : ByOk n kind B) :
    Wp (m__law_built (.tup [.int L, .int n, .int s, .tup (W.map tupI), .str kind, B])) st fun u st' => ∃ G : List Dc, u = hallObj L n s W kind B G ∧ st' = st ∧ GOk n W G := by
  obtain ⟨cs, sd, rfl, b0, b1⟩ := hd
  obtain ⟨u, st', e, G, rfl, rfl, hG⟩ := init_ok l0 l1 n0 n1 s0 s1 hW hl hB
  refine ⟨_, _, ?_, G, rfl, rfl, hG⟩
  unfold m__law_built
  have hm : mkM "Hall" (L7 m_Hall___init__) (consA (.ret (.int L)) (consA (.ret (.int n)) (consA (.ret (.int s)) (consA (.ret (.tup (W.map tupI))) (consA (.ret (.str kind)) (consA (.ret B) nilA)))))) (hs cs sd) = some (.ok (hallObj L n s W kind B G), hs cs sd) := by
    show (match m_Hall___init__ (.loc 1) (.int L) (.int n) (.int s) (.tup (W.map tupI)) (.str kind) B [.loc 0, .obj "Hall" [] []] with
      | some (.ok .non, st') => match st'[1]? with
        | some u => if nlU u = true then some (Res.ok u, hs cs sd) else none
        | none => none
      | _ => none) = _
    rw [e]
    show (if nlU (hallObj L n s W kind B G) = true then some (Res.ok (hallObj L n s W kind B G), hs cs sd) else none) = _
    rw [if_pos (nl_hall hB)]
  show fnM (rtO (mkM "Hall" (L7 m_Hall___init__) (consA (.ret (.int L)) (consA (.ret (.int n)) (consA (.ret (.int s)) (consA (.ret (.tup (W.map tupI))) (consA (.ret (.str kind)) (consA (.ret B) nilA)))))))) (hs cs sd) = _
  unfold fnM rtO
  rw [M.bind_of (M.bind_of hm)]
  rfl

theorem atI_nat {α : Type} {us : List α} {j : Nat} {u : α} (h : us[j]? = some u) : atI us (j : Int) = some u := by
  have := getElem?_lt h
  unfold atI ixN
  rw [if_pos (by omega), if_pos (by omega)]
  exact h
theorem ends_eq {L n s : Int} {W : List (List Int)} {kind : Str} {B : U} {G : List Dc} (hG : GOk n W G) {r : Nat} (l : Int) (hr : (r : Int) < n) : m_Hall_ends (hallObj L n s W kind B G) (.int r) (.int l) = .ret (.tup ((endsOf W r l).map .int)) := by
  have hlen := hG.len
  have hl : r < G.length := by omega
  have hD : G[r]? = some G[r] := List.getElem?_eq_getElem hl
  generalize G[r] = D at hD
  show fnM (rtO (M.bind (M.bind (M.o (atI (G.map dU) (r : Int))) fun d => .o (getD2 d (.int l) (.lst []))) (fun a => .o (tupleU a)))) = _
  rw [atI_nat (by rw [List.getElem?_map, hD]; rfl)]
  show fnM (rtO (M.bind (M.o (getD2 (dU D) (.int l) (.lst []))) (fun a => .o (tupleU a)))) = _
  rw [get_eq, (hG.at_ r D hD).2 l]
  rfl
theorem comp2_map {wl : U → M (List U)} {ys : List U} {we : U → U → M U} {f : U → U → U} : ∀ {us : List U}, (∀ u ∈ us, wl u = .ret ys ∧ ∀ y ∈ ys, we u y = .ret (f u y)) → comp2M (fun _ => .ret true) wl (fun _ _ => .ret true) we us = .ret (us.flatMap fun u => ys.map (f u))
  | [], _ => rfl
  | u :: us, h => by
    rw [comp2M]
    show M.bind (wl u) _ = _
    rw [(h u List.mem_cons_self).1]
    show M.bind (compM (fun _ => .ret true) (we u) ys) _ = _
    rw [comp_map (f := f u) fun y m => ⟨rfl, (h u List.mem_cons_self).2 y m⟩]
    show M.bind (comp2M _ wl _ we us) _ = _
    rw [comp2_map fun v m => h v (List.mem_cons_of_mem _ m)]
    rfl
/-- how many ends each room and letter have -/
def cnt (W : List (List Int)) (n L : Nat) : List Nat := (List.range n).flatMap fun r => (List.range L).map fun l => (endsOf W (r : Nat) (l : Nat)).length
theorem bools_map : ∀ bs : List Bool, boolsU (bs.map U.bl) = some bs
  | [] => rfl
  | b :: bs => by rw [List.map_cons, boolsU, bools_map bs]; rfl


theorem meth_ends {L n s : Int} {W : List (List Int)} {kind : Str} {B : U} {G : List Dc} (hG : GOk n W G) {r : Nat} (l : Int) (hr : (r : Int) < n) : methM "Hall" "ends" (L3 m_Hall_ends) (.ret (hallObj L n s W kind B G)) (consA (.ret (.int r)) (consA (.ret (.int l)) nilA)) = .ret (.tup ((endsOf W r l).map .int)) := by
  show m_Hall_ends (hallObj L n s W kind B G) (.int r) (.int l) = _
  exact ends_eq hG l hr
theorem flat_len {α β : Type} {f : α → List β} {k : Nat} : ∀ {l : List α}, (∀ a ∈ l, (f a).length ≤ k) → (l.flatMap f).length ≤ l.length * k
  | [], _ => by simp
  | a :: l, h => by
    rw [List.flatMap_cons, List.length_append, List.length_cons, Nat.succ_mul]
    have h1 := h a List.mem_cons_self
    have h2 := flat_len fun b m => h b (List.mem_cons_of_mem _ m)
    omega
theorem certain_eq {L n s : Int} {W : List (List Int)} {kind : Str} {B : U} {G : List Dc} (hG : GOk n W G) (l0 : 1 ≤ L) (l1 : L ≤ 4) (n0 : 1 ≤ n) (n1 : n ≤ 1000) : m_Hall_is_certain (hallObj L n s W kind B G) = .ret (.bl ((cnt W n.toNat L.toNat).all (· == 1))) := by
  have sz : (1000000 : Nat) ≤ sizeLine := by decide
  have e1 : rng1W (op1 (fldU ["Hall"] "rooms") (.ret (hallObj L n s W kind B G))) = .ret ((List.range n.toNat).map fun i => U.int (i : Nat)) := by
    show M.o (rng1U (.int n)) = _
    rw [rng_at (by omega) (by omega)]; rfl
  have e2 : rng1W (op1 (fldU ["Hall"] "letters") (.ret (hallObj L n s W kind B G))) = .ret ((List.range L.toNat).map fun i => U.int (i : Nat)) := by
    show M.o (rng1U (.int L)) = _
    rw [rng_at (by omega) (by omega)]; rfl
  have key : comp2M (fun _ => .ret true) (fun _ => rng1W (op1 (fldU ["Hall"] "letters") (.ret (hallObj L n s W kind B G)))) (fun _ _ => .ret true) (fun room letter => op2 eqU (op1 lenU (methM "Hall" "ends" (L3 m_Hall_ends) (.ret (hallObj L n s W kind B G)) (consA (.ret room) (consA (.ret letter) nilA)))) (.ret (.int 1))) ((List.range n.toNat).map fun i => U.int (i : Nat)) = .ret (((cnt W n.toNat L.toNat).map (· == 1)).map U.bl) := by
    rw [comp2_map (ys := (List.range L.toNat).map fun i => U.int (i : Nat)) (f := fun u y => match u, y with
      | .int r, .int l => .bl ((endsOf W r l).length == 1)
      | _, _ => .non) fun u m => ⟨e2, fun y my => ?_⟩]
    · unfold cnt
      congr 1
      rw [List.flatMap_map, List.map_flatMap, List.map_flatMap]
      congr 1
      funext r
      rw [List.map_map, List.map_map, List.map_map]
      rfl
    · obtain ⟨r, mr, rfl⟩ := List.mem_map.mp m
      obtain ⟨l, ml, rfl⟩ := List.mem_map.mp my
      have hr : (r : Int) < n := by have := List.mem_range.mp mr; omega
      rw [meth_ends hG (l : Int) hr]
      show M.o (eqU (.int (((endsOf W r l).map U.int).length : Nat)) (.int 1)) = _
      rw [eqU_int, List.length_map]
      show M.ret (U.bl _) = M.ret (U.bl _)
      congr 2
      by_cases z : (endsOf W (r : Nat) (l : Nat)).length = 1
      · rw [z]; rfl
      · rw [decide_eq_false (by omega)]
        exact (beq_false_of_ne z).symm
  unfold m_Hall_is_certain lc2W
  rw [e1]
  show fnM (rtO (M.bind (M.bind (comp2M _ _ _ _ _) fun r => .o (szU r)) fun a => .o (allU a))) = _
  rw [key]
  show fnM (rtO (M.bind (M.o (szU _)) fun a => .o (allU a))) = _
  have hl : (((cnt W n.toNat L.toNat).map (· == 1)).map U.bl).length ≤ sizeLine := by
    rw [List.length_map, List.length_map]
    have : (cnt W n.toNat L.toNat).length ≤ (List.range n.toNat).length * 4 := flat_len fun a _ => by rw [List.length_map, List.length_range]; omega
    rw [List.length_range] at this
    omega
  rw [szU, if_pos hl]
  show fnM (rtO (M.o (allU _))) = _
  simp only [allU, bools_map, Option.map_some]
  show M.ret (U.bl _) = _
  congr 2
  rw [List.all_map]
  rfl

theorem eqU_two (a b c d : Int) : eqU (.tup [.int a, .int b]) (.tup [.int c, .int d]) = some (.bl (decide (a = c ∧ b = d))) := by
  show eqD (.tup [.int a, .int b]) (.tup [.int c, .int d]) = _
  unfold eqD
  rw [show pd (.tup [.int a, .int b]) = some (.tuple [.int a, .int b]) from rfl, show pd (.tup [.int c, .int d]) = some (.tuple [.int c, .int d]) from rfl]
  have h : ∀ i j : Int, SeqAt.shaped (.tuple [.int i, .int j]) = true := fun i j => by simp [SeqAt.shaped, PyData.canLay0, PyData.canLayAll0, PyData.depth, PyData.depthAll]
  simp only [h, and_self, if_true, PyData.eqv, PyData.eqvAll, Bool.and_true]
  congr 2
  by_cases h1 : a = c <;> by_cases h2 : b = d <;> simp [h1, h2]
theorem due_comp {n L r l : Int} : ∀ {W : List (List Int)}, (∀ w ∈ W, Tri n L w) → compM (fun way => testW (op2 eqU (slW (.ret way) noP (someP (.ret (.int 2)))) (tupW (consA (.ret (.int r)) (consA (.ret (.int l)) nilA))))) (fun way => op2 ixU (.ret way) (.ret (.int 2))) (W.map tupI) = .ret ((endsOf W r l).map U.int)
  | [], _ => rfl
  | w :: W, h => by
    obtain ⟨a, b, c, rfl, _⟩ := h w List.mem_cons_self
    have ih := due_comp (r := r) (l := l) fun v m => h v (List.mem_cons_of_mem _ m)
    rw [List.map_cons, compM, ih]
    show M.bind (M.bind (M.o (eqU (.tup [.int a, .int b]) (.tup [.int r, .int l]))) fun a => .o (boolU a)) _ = _
    rw [eqU_two]
    by_cases z : a = r ∧ b = l
    · rw [decide_eq_true z]
      show M.ret (U.int c :: (endsOf W r l).map U.int) = _
      simp [endsOf, oneEnd, z]
    · rw [decide_eq_false z]
      show M.ret ((endsOf W r l).map U.int) = _
      simp [endsOf, oneEnd, z]

local macro_rules | `(tactic| walk_at "v1") => `(tactic| with_reducible first
  | refine vs_ret ?_ | refine vs_o ?_ | refine wo_some ?_ | refine Wp.bind ?_ | refine vs_op2 ?_ | refine vs_op1 ?_ | refine vs_test ?_ | refine vs_not ?_ | refine vs_and ?_ | refine vs_or ?_ | refine vs_andW ?_ | refine vs_orW ?_ | refine vs_ite ?_ | refine vs_chain ?_
  | refine vs_consA ?_ | refine vs_nilA ?_ | refine vs_tup ?_ | refine vs_lst ?_ | refine vs_call ?_ | refine vs_meth ?_ | refine vs_L1 ?_ | refine vs_L2 ?_ | refine vs_L3 ?_ | refine vs_L4 ?_ | refine vs_L5 ?_ | refine vs_L6 ?_ | refine vs_L0 ?_
  | refine vs_seq ?_ | refine sk_nx ?_ | refine sk_rt ?_ | refine sk_bk ?_ | refine sk_ct ?_ | refine fk_rt ?_ | refine fk_nx ?_ | refine ok_nx ?_ | refine ok_ct ?_ | refine ok_bk ?_ | refine ok_rt ?_ | refine vs_rt ?_ | refine vs_nx ?_ | refine vs_fn ?_
  | refine vs_noP ?_ | refine vs_someP ?_ | refine vs_sl ?_ | refine vs_it ?_ | refine vs_rng1 ?_ | refine vs_rng2 ?_ | refine vs_zip ?_ | refine vs_un2 ?_ | refine vs_un3 ?_ | refine vs_un4 ?_ | refine vs_un5 ?_ | refine vs_un6 ?_ | refine vs_lc ?_ | refine vs_lc2 ?_
  | refine if_t ?_ | refine if_f ?_ | refine if_nt ?_ | refine if_nf ?_
  | refine wo_add_i ?_ | refine wo_sub ?_ | refine wo_neg ?_ | refine wo_le ?_ | refine wo_lt ?_ | refine wo_gt ?_ | refine wo_ge ?_ | refine wo_eq_i ?_ | refine wo_ne_i ?_ | refine wo_eq_s ?_ | refine wo_ne_s ?_ | refine wo_not ?_ | refine wo_bool ?_ | refine wo_int ?_
  | refine wo_len_t ?_ | refine wo_len_l ?_ | refine wo_len_f ?_ | refine wo_tuple_l ?_ | refine wo_tuple_t ?_ | refine wo_list_l ?_ | refine wo_list_t ?_ | refine wo_it_t ?_ | refine wo_it_l ?_ | refine wo_it_f ?_ | refine wo_sl_t ?_ | refine wo_sl_l ?_ | refine wo_zip_tt ?_)
local macro_rules | `(tactic| walk_at "v2") => `(tactic| first
  | refine ⟨lit_le rfl, ?_⟩
  | (with_reducible refine wo_mul (by omega) ?_) | (with_reducible refine wo_modp (by omega) ?_) | (with_reducible refine wo_mod (by omega) ?_) | (with_reducible refine wo_fdiv (by omega) (by omega) ?_)
  | (with_reducible refine wo_rng1 ⟨by omega, by omega⟩ ?_) | (with_reducible refine wo_rng2 ⟨by omega, by omega⟩ ⟨by omega, by omega⟩ ?_)
  | (with_reducible refine wo_ix_t rfl ?_) | (with_reducible refine wo_ix_l rfl ?_) | (with_reducible refine wo_isObj rfl ?_) | (with_reducible refine wo_fld rfl ?_))
local macro_rules | `(tactic| walk_at "v") => `(tactic| repeat (first | walk_at "v1" | walk_at "v2"))

abbrev cntU (c : List Nat) : U := .lst (c.map fun k => .int (k : Nat))
def cRow (W : List (List Int)) (r j : Nat) : List Nat := (List.range j).map fun l => (endsOf W (r : Nat) (l : Nat)).length
theorem Tri.sm {n L : Int} {w : List Int} (h : Tri n L w) (h1 : n ≤ 1000) (h2 : L ≤ 1000) : ∀ x ∈ w, x.natAbs < 1000 := by
  obtain ⟨r, l, e, rfl, _⟩ := h
  intro x m
  simp at m
  omega
theorem ends_mem {n L : Int} {W : List (List Int)} (h : ∀ w ∈ W, Tri n L w) {r l : Int} : ∀ x ∈ endsOf W r l, 0 ≤ x ∧ x < n := by
  intro x m
  obtain ⟨w, mw, e⟩ := List.mem_filterMap.mp m
  obtain ⟨a, b, c, rfl, _, _, _, _, c0, c1⟩ := h w mw
  simp only [oneEnd] at e
  split at e
  · cases e; exact ⟨c0, c1⟩
  · cases e
theorem ends_no {n L : Int} {W : List (List Int)} (h : ∀ w ∈ W, Tri n L w) {r l : Int} (hl : L ≤ l) : endsOf W r l = [] := by
  refine List.filterMap_eq_nil_iff.mpr fun w m => ?_
  obtain ⟨a, b, c, rfl, _, _, _, b1, _, _⟩ := h w m
  simp only [oneEnd]
  rw [if_neg (by omega)]
theorem repr_row {xs : List Int} (h : ∀ x ∈ xs, x.natAbs < 1000000000000) (hl : xs.length ≤ 1000) : ∃ z, reprU (.tup (xs.map .int)) = some (.str z) := by
  refine repr_sm (sm_ints h) ?_ ?_
  · simp [dpU, dp_ints]
  · have := wt_ints xs
    simp only [wtU]
    omega
theorem cnt_eq (W : List (List Int)) (n L : Nat) : (List.range n).flatMap (fun r => cRow W r L) = cnt W n L := rfl
theorem cnt_len (W : List (List Int)) {n L : Nat} (hn : n ≤ 6) (hL : L ≤ 4) : (cnt W n L).length ≤ 24 := by
  have h : (cnt W n L).length ≤ (List.range n).length * 4 := flat_len fun a _ => by rw [List.length_map, List.length_range]; exact hL
  rw [List.length_range] at h
  omega
theorem all_one (c : List Nat) : c.all (· == 1) = decide (c = List.replicate c.length 1) := by
  rw [Bool.eq_iff_iff, decide_eq_true_eq, List.all_eq_true, List.eq_replicate_iff]
  simp
theorem flat_one : ∀ n : Nat, (List.replicate n [U.int 1]).flatten = (List.replicate n 1).map fun k : Nat => U.int (k : Nat)
  | 0 => rfl
  | n + 1 => by rw [List.replicate_succ, List.flatten_cons, flat_one n]; rfl
theorem eq_counts (c : List Nat) : eqU (cntU c) (.lst (List.replicate c.length [U.int 1]).flatten) = some (.bl (c.all (· == 1))) := by
  have hn : ∀ c : List Nat, nbA (c.map fun k : Nat => U.int (k : Nat)) = true := fun c => nbA_map fun _ _ => rfl
  have hd : ∀ c : List Nat, dpA (c.map fun k : Nat => U.int (k : Nat)) = 0 := fun c => Nat.le_zero.mp (dpA_map fun _ _ => Nat.le_refl 0)
  rw [flat_one]
  refine eqU_nb (u := cntU c) (v := .lst ((List.replicate c.length 1).map fun k : Nat => U.int (k : Nat))) (hn c) (hn _) (by unfold cntU dpU; rw [hd]; decide) (by unfold dpU; rw [hd]; decide) ?_
  rw [all_one, decide_eq_true_eq]
  constructor
  · intro h; unfold cntU; rw [← h]
  · intro h
    exact (map_inj (c := fun k : Nat => U.int (k : Nat)) fun x y e => by have := U.int.inj e; omega).mp (U.lst.inj h)
theorem mul_two (b : U) : mulU (.lst [b]) (.int 2) = some (.lst [b, b]) := rfl
theorem ne_nils : neU (.lst [.tup [], .tup [], .tup []]) (.lst [.tup [], .tup [], .tup []]) = some (.bl false) := neU_nb (b := true) rfl rfl (by decide) (by decide) (by simp)
theorem right_ok {n L s : Int} {W : List (List Int)} {kind : Str} {B : U} {st : Sto} (hd : Hd st) (l0 : 1 ≤ L) (l1 : L ≤ 4) (n0 : 1 ≤ n) (n1 : n ≤ 6) (s0 : 0 ≤ s) (s1 : s < n) (hW : WOk n L W) (hl : W.length < 1000) (hB : ByOk n kind B) :
    Wp (m__law_right (.tup [.int L, .int n, .int s, .tup (W.map tupI), .str kind, B])) st fun u st' => u = .bl true ∧ st' = st := by
  unfold m__law_right
  walk_at "v"
  refine (built_ok hd l0 l1 n0 (by omega) s0 s1 hW (by omega) hB).mono ?_
  rintro _ st ⟨G, rfl, rfl, hG⟩
  walk_at "v"
  refine vs_forN (e := cntU) (t0 := []) (fun i c st' => c = (List.range i).flatMap (fun r => cRow W r L.toNat) ∧ st' = st) rfl ⟨rfl, rfl⟩ ?_ ?_
  · rintro i _ st hi ⟨rfl, rfl⟩
    walk_at "v"
    refine vs_forN (e := cntU) (t0 := (List.range i).flatMap (fun r => cRow W r L.toNat)) (fun j c st' => c = (List.range i).flatMap (fun r => cRow W r L.toNat) ++ cRow W i j ∧ st' = st) rfl ⟨by simp [cRow], rfl⟩ ?_ ?_
    · rintro j _ st hj ⟨rfl, rfl⟩
      walk_at "v"
      refine vs_eq (due_comp (n := n) (L := L) hW.1) ⟨?_, ?_⟩
      · have := ends_len W i j
        have : (1000 : Nat) ≤ sizeLine := by decide
        rw [List.length_map]; omega
      obtain ⟨z, ez⟩ := repr_row (xs := endsOf W i j) (fun x m => by have := ends_mem hW.1 x m; omega) (by have := ends_len W i j; omega)
      walk_at "v"
      refine vs_eq (ends_eq hG (j : Int) (by omega)) ?_
      refine wo_eq ez ?_
      walk_at "v"
      refine wo_eq ez ?_
      walk_at "v"
      refine if_nn rfl ?_
      walk_at "v"
      have hlen : ((List.range i).flatMap (fun r => cRow W r L.toNat) ++ cRow W i j).length ≤ 30 := by
        have h1 := cnt_len W (n := i) (L := L.toNat) (by omega) (by omega)
        have h2 : (cRow W i j).length = j := by simp [cRow]
        rw [List.length_append, cnt_eq, h2]
        omega
      refine wo_app ?_ ?_
      · have : (1000 : Nat) ≤ sizeLine := by decide
        rw [List.length_map]; omega
      walk_at "v"
      refine ⟨_, ?_, rfl, rfl⟩
      simp [cntU, cRow, List.range_succ]
    · rintro _ st ⟨rfl, rfl⟩
      walk_at "v"
      have e0 : ∀ l : Int, L ≤ l → m_Hall_ends (hallObj L n s W kind B G) (.int i) (.int l) = .ret (.tup []) := fun l h => by rw [ends_eq hG l (by omega), ends_no hW.1 h]; rfl
      have ek : ∀ l : Int, L ≤ l → methM "Hall" "ends" (L3 m_Hall_ends) (.ret (hallObj L n s W kind B G)) (consA (.ret (.int i)) (consA (.ret (.int l)) nilA)) = .ret (.tup []) := fun l h => by
        rw [← e0 l h]; rfl
      refine vs_eq (a := [.tup [], .tup [], .tup []]) ?_ ?_
      · simp only [compM, M.bind_ret, if_true, ek L (by omega), ek (L + 1) (by omega), ek 999999999 (by omega)]
      walk_at "v"
      refine wo_eq ne_nils ?_
      walk_at "v"
      exact ⟨_, rfl, by rw [List.range_succ, List.flatMap_append]; simp, rfl⟩
  · rintro _ st ⟨rfl, rfl⟩
    rw [cnt_eq]
    walk_at "v"
    refine vs_eq (certain_eq hG l0 l1 n0 (by omega)) ?_
    walk_at "v"
    refine vs_eq (certain_eq hG l0 l1 n0 (by omega)) ?_
    walk_at "v"
    have hc := cnt_len W (n := n.toNat) (L := L.toNat) (by omega) (by omega)
    obtain ⟨z, ez⟩ := repr_sm (u := .lst [.bl ((cnt W n.toNat L.toNat).all (· == 1)), .bl ((cnt W n.toNat L.toNat).all (· == 1))]) rfl (Nat.le_of_ble_eq_true rfl) (Nat.le_of_ble_eq_true rfl)
    refine wo_eq ez ?_
    have hc2 : (List.map (fun k : Nat => U.int (k : Nat)) (cnt W n.toNat L.toNat)).length = (cnt W n.toNat L.toNat).length := List.length_map _
    walk_at "v"
    rw [hc2]
    refine wo_eq (a := .lst (List.replicate (cnt W n.toNat L.toNat).length [U.int 1]).flatten) ?_ ?_
    · refine if_pos ⟨by omega, by omega, ?_⟩
      have : (1000 : Nat) ≤ sizeLine := by decide
      simp only [List.length_singleton, Int.toNat_natCast]
      omega
    refine wo_eq (eq_counts _) ?_
    walk_at "v"
    refine wo_eq (mul_two _) ?_
    refine wo_eq ez ?_
    walk_at "v"
    exact ⟨by simp, rfl⟩

/-! ### the law -/
def c3 : List Int → Int
  | [r, l, e] => r * 100 + l * 10 + e
  | _ => 0
theorem wok_len {n L : Int} {W : List (List Int)} (h : WOk n L W) (n1 : n ≤ 6) (l1 : L ≤ 4) : W.length ≤ 600 := by
  have hb : ∀ r ∈ W.map c3, 0 ≤ r ∧ r < 600 := fun r m => by
    obtain ⟨w, mw, rfl⟩ := List.mem_map.mp m
    obtain ⟨a, b, c, rfl, _⟩ := h.1 w mw
    simp only [c3]; omega
  have hp : (W.map c3).Pairwise (· < ·) := by
    refine List.pairwise_map.mpr (h.2.imp_of_mem fun {a b} ma mb q => ?_)
    obtain ⟨a1, a2, a3, rfl, _⟩ := h.1 a ma
    obtain ⟨b1, b2, b3, rfl, _⟩ := h.1 b mb
    simp only [lexLt, c3] at *
    omega
  have := rise_len (W.map c3) 0 600 hp hb
  rw [List.length_map] at this
  omega
theorem Tri.bd {n L : Int} {w : List Int} (h : Tri n L w) (n1 : n ≤ 6) (l1 : L ≤ 4) : w.length = 3 ∧ TS.Bd B0 w := by
  obtain ⟨r, l, e, rfl, _⟩ := h
  refine ⟨rfl, fun m hm => ?_⟩
  unfold B0
  simp at hm
  omega
theorem code_lex {n L : Int} {a b : List Int} (ha : Tri n L a) (hb : Tri n L b) (n1 : n ≤ 6) (l1 : L ≤ 4) (h : leC a b = true) (ne : a ≠ b) : lexLt a b := by
  have ba := (ha.bd n1 l1).2
  have bb := (hb.bd n1 l1).2
  obtain ⟨r, l, e, rfl, _⟩ := ha
  obtain ⟨r', l', e', rfl, _⟩ := hb
  unfold leC at h
  have h := of_decide_eq_true h
  simp only [lexLt]
  rcases Int.lt_trichotomy r r' with z | z | z
  · exact .inl z
  · subst z
    refine .inr ⟨rfl, ?_⟩
    rcases Int.lt_trichotomy l l' with y | y | y
    · exact .inl y
    · subst y
      refine .inr ⟨rfl, ?_⟩
      rcases Int.lt_trichotomy e e' with x | x | x
      · exact x
      · subst x; exact absurd rfl ne
      · have := TS.code_lt (B := B0) (r := []) (q := []) rfl (fun _ z => nomatch z) (fun _ z => nomatch z) x
        have h1 := (TS.code_same (B := B0) (d := r) (r := [l, e']) (q := [l, e]) rfl).mpr ((TS.code_same (B := B0) (d := l) (r := [e']) (q := [e]) rfl).mpr this)
        omega
    · have := TS.code_lt (B := B0) (r := [e']) (q := [e]) rfl bb.tail.tail ba.tail.tail y
      have h1 := (TS.code_same (B := B0) (d := r) (r := [l', e']) (q := [l, e]) rfl).mpr this
      omega
  · have := TS.code_lt (B := B0) (r := [l', e']) (q := [l, e]) rfl bb.tail ba.tail z
    omega
theorem sort_wok {n L : Int} {R : List (List Int)} (n1 : n ≤ 6) (l1 : L ≤ 4) (ht : ∀ w ∈ R, Tri n L w) (hn : R.Nodup) : WOk n L (sortI R) := by
  have hm : ∀ w, w ∈ sortI R ↔ w ∈ R := fun w => (sortI_perm R).mem_iff
  refine ⟨fun w m => ht w ((hm w).mp m), ?_⟩
  have hnd : (sortI R).Nodup := (sortI_perm R).symm.nodup hn
  have hp := (sortI_pw R).and hnd
  exact hp.imp_of_mem fun {a b} ma mb ⟨q, ne⟩ => code_lex (ht a ((hm a).mp ma)) (ht b ((hm b).mp mb)) n1 l1 q ne
theorem ints_map : ∀ ns : List Int, intsL (ns.map .int) = some ns
  | [] => rfl
  | n :: ns => by rw [List.map_cons, intsL, ints_map ns]; rfl
theorem rows_map : ∀ R : List (List Int), rowsU (R.map tupI) = some R
  | [] => rfl
  | r :: R => by
    rw [List.map_cons, rowsU, rows_map R]
    show (match intsL (r.map .int), some R with | some ns, some L => some (ns :: L) | _, _ => none) = _
    rw [ints_map]
theorem rows_ok {n L : Int} {R : List (List Int)} (n1 : n ≤ 6) (l1 : L ≤ 4) (ht : ∀ w ∈ R, Tri n L w) (hl : R.length < 64) : RowsOk (rowLen R) R := by
  refine ⟨?_, hl, fun w m => ?_⟩
  · cases R with
    | nil => exact Nat.le_refl 1
    | cons r R => obtain ⟨a, b, c, rfl, _⟩ := ht r List.mem_cons_self; show 1 ≤ 3; decide
  · obtain ⟨h1, h2⟩ := (ht w m).bd n1 l1
    refine ⟨?_, h2⟩
    cases R with
    | nil => cases m
    | cons r R => rw [h1]; exact ((ht r List.mem_cons_self).bd n1 l1).1.symm
theorem sortT_at {n L : Int} {R : List (List Int)} (n1 : n ≤ 6) (l1 : L ≤ 4) (ht : ∀ w ∈ R, Tri n L w) (hl : R.length < 64) : sortTU (.lst (R.map tupI)) = some (.lst ((sortI R).map tupI)) := by
  simp only [sortTU, rows_map]
  rw [if_pos (rows_ok n1 l1 ht hl)]
theorem sortS_at {n L : Int} {R : List (List Int)} (n1 : n ≤ 6) (l1 : L ≤ 4) (ht : ∀ w ∈ R, Tri n L w) (hl : R.length < 64) : sortSetU (.tup (R.map tupI)) = some (.lst ((sortI (ddp R)).map tupI)) := by
  simp only [sortSetU, rows_map]
  rw [if_pos (rows_ok n1 l1 ht hl)]
def spot (n : Int) (k : Nat) : List Int := [(k : Int).fmod n, (k : Int).fdiv n]
theorem spot_bd {n L : Int} (n0 : 1 ≤ n) (l0 : 1 ≤ L) {j : Nat} (hj : (j : Int) < n * L) : 0 ≤ (j : Int).fmod n ∧ (j : Int).fmod n < n ∧ 0 ≤ (j : Int).fdiv n ∧ (j : Int).fdiv n < L := by
  refine ⟨Int.fmod_nonneg_of_pos _ (by omega), Int.fmod_lt_of_pos _ (by omega), Int.fdiv_nonneg (by omega) (by omega), ?_⟩
  rw [Int.fdiv_eq_ediv_of_nonneg _ (by omega)]
  exact Int.ediv_lt_of_lt_mul (by omega) (by rw [Int.mul_comm]; exact hj)
theorem spot_inj {n : Int} (n0 : 1 ≤ n) {i j : Nat} (h : spot n i = spot n j) : i = j := by
  have h1 : (i : Int).fmod n = (j : Int).fmod n := by simpa [spot] using (List.cons.inj h).1
  have h2 : (i : Int).fdiv n = (j : Int).fdiv n := (List.cons.inj (List.cons.inj h).2).1
  have e1 := Int.mul_fdiv_add_fmod (i : Int) n
  have e2 := Int.mul_fdiv_add_fmod (j : Int) n
  rw [h1, h2] at e1
  omega
theorem nodup_of {α : Type} : ∀ {l : List α}, (∀ (i j : Nat) (w : α), i < j → l[i]? = some w → l[j]? = some w → False) → l.Nodup
  | [], _ => List.nodup_nil
  | x :: l, h => by
    refine List.nodup_cons.mpr ⟨fun m => ?_, nodup_of fun i j w hij h1 h2 => h (i + 1) (j + 1) w (by omega) (by simpa using h1) (by simpa using h2)⟩
    obtain ⟨j, e⟩ := List.mem_iff_getElem?.mp m
    exact h 0 (j + 1) x (by omega) rfl (by simpa using e)
theorem law_ok : ∀ ns : List Int, ns.length ≤ 63 → ∃ st', m_law (.frl (ns.map .int)) [] = some (.ok (.bl true), st') := by
  intro ns hns
  suffices h : Wp (m_law (.frl (ns.map .int))) [] fun u _ => u = .bl true by
    obtain ⟨u, st, e, rfl⟩ := h
    exact ⟨st, e⟩
  unfold m_law
  walk_at "v"
  refine (hand_ok hns).mono ?_
  rintro _ st ⟨rfl, hd⟩
  walk_at "v"
  refine vs_forN (e := fun _ : Unit => ()) (t0 := ()) (fun i _ st' => Hd st') rfl hd ?_ ?_
  · rintro i _ st hi hd
    walk_at "v"
    refine (pick_ok hd (by omega) (by omega)).mono ?_
    rintro _ st ⟨k, rfl, k0, k1, hd⟩
    walk_at "v"
    refine (hall_ok hd (L := 1 + k) (by omega) (by omega) (by decide) (by decide)).mono ?_
    rintro _ st ⟨⟨n, n0, n1, s, W, kind, B, rfl, s0, s1, hW, hk, hB⟩, hd⟩
    generalize eL : 1 + k = L at *
    have l0 : 1 ≤ L := by omega
    have l1 : L ≤ 4 := by omega
    walk_at "v"
    refine (right_ok hd l0 l1 n0 n1 s0 s1 hW (by have := wok_len hW n1 l1; omega) hB).mono ?_
    rintro _ st ⟨rfl, rfl⟩
    have hnL : 1 ≤ n * L ∧ n * L ≤ 24 := by
      have h1 := Int.mul_le_mul n1 l1 (by omega) (by omega)
      have h2 := Int.mul_le_mul n0 l0 (by omega) (by omega)
      omega
    walk_at "v"
    refine vs_compN (d := tupI) (fun i r st' => r = (List.range i).map (spot n) ∧ st' = st) ⟨rfl, rfl⟩ ?_ ?_
    · rintro i _ st hi ⟨rfl, rfl⟩
      walk_at "v"
      intro r er r0 r1
      walk_at "v"
      refine ⟨spot n i, ?_, ?_, rfl⟩
      · rw [er]; rfl
      · rw [List.range_succ, List.map_append]; rfl
    rintro _ st ⟨rfl, rfl⟩
    refine ⟨?_, ?_⟩
    · have : (1000 : Nat) ≤ sizeLine := by decide
      rw [List.length_map, List.length_map, List.length_range]; omega
    walk_at "v"
    refine vs_comp (c := tupI) (d := tupI) (fun pre r st' => Hd st' ∧ r.length = pre.length ∧ ∀ (j : Nat) (w : List Int), r[j]? = some w → ∃ (e : Int) (p : List Int), pre[j]? = some p ∧ w = p ++ [e] ∧ 0 ≤ e ∧ e < n) ⟨hd, rfl, fun j w e => by simp at e⟩ ?_ ?_
    · rintro pre x post r st ex ⟨hd, hl, hr⟩
      have hx : ∃ a b : Int, x = [a, b] := by
        have : x ∈ (List.range (n * L).toNat).map (spot n) := by rw [ex]; simp
        obtain ⟨k, _, rfl⟩ := List.mem_map.mp this
        exact ⟨_, _, rfl⟩
      obtain ⟨xa, xb, rfl⟩ := hx
      walk_at "v"
      refine (pick_ok hd (by omega) (by omega)).mono ?_
      rintro _ st ⟨k, rfl, k0, k1, hd⟩
      walk_at "v"
      refine wo_add_t (lit_le rfl) ?_
      refine ⟨[xa, xb, k], rfl, hd, by simp [hl], fun j w e => ?_⟩
      rcases Nat.lt_or_ge j r.length with hj | hj
      · rw [List.getElem?_append_left hj] at e
        obtain ⟨e', p, h1, h2⟩ := hr j w e
        exact ⟨e', p, by rw [List.getElem?_append_left (by omega)]; exact h1, h2⟩
      · rw [List.getElem?_append_right hj] at e
        have hj' : j - r.length = 0 := by
          have := getElem?_lt e
          simp at this; omega
        rw [hj'] at e
        simp at e
        subst e
        refine ⟨k, [xa, xb], ?_, rfl, k0, k1⟩
        rw [List.getElem?_append_right (by omega), show j - pre.length = 0 by omega]
        rfl
    rintro R st ⟨hd, hRl, hR⟩
    rw [List.length_map, List.length_range] at hRl
    have hRs : ∀ (j : Nat) (w : List Int), R[j]? = some w → ∃ e : Int, w = spot n j ++ [e] ∧ 0 ≤ e ∧ e < n ∧ j < (n * L).toNat := fun j w ew => by
      obtain ⟨e, p, h1, h2, h3⟩ := hR j w ew
      have hj : j < (n * L).toNat := by have := getElem?_lt ew; omega
      rw [List.getElem?_map, List.getElem?_range hj] at h1
      cases h1
      exact ⟨e, h2, h3.1, h3.2, hj⟩
    have hT : ∀ w ∈ R, Tri n L w := fun w m => by
      obtain ⟨j, ej⟩ := List.mem_iff_getElem?.mp m
      obtain ⟨e, rfl, e0, e1, hj⟩ := hRs j w ej
      have d1 := spot_bd (n := n) (L := L) n0 l0 (j := j) (by omega)
      exact ⟨_, _, e, rfl, d1.1, d1.2.1, d1.2.2.1, d1.2.2.2, e0, e1⟩
    have hN : R.Nodup := by
      refine nodup_of fun i j w hij ew ew' => ?_
      obtain ⟨e, h1, _⟩ := hRs i w ew
      obtain ⟨e', h2, _⟩ := hRs j w ew'
      rw [h1] at h2
      have := spot_inj n0 (List.append_inj_left h2 rfl)
      omega
    have hR64 : R.length < 64 := by omega
    refine ⟨?_, ?_⟩
    · have : (1000 : Nat) ≤ sizeLine := by decide
      rw [List.length_map]; omega
    refine wo_eq (sortT_at n1 l1 hT hR64) ?_
    have hJ : WOk n L (sortI R) := sort_wok n1 l1 hT hN
    have hJl : (sortI R).length = (n * L).toNat := by rw [(sortI_perm R).length_eq, hRl]
    generalize sortI R = J at *
    walk_at "v"
    rw [List.length_map, hJl]
    refine (pick_ok hd (by omega) (by omega)).mono ?_
    rintro _ st ⟨at', rfl, a0, a1, hd⟩
    walk_at "v"
    obtain ⟨w, ew⟩ : ∃ w, J[at'.toNat]? = some w := ⟨_, List.getElem?_eq_getElem (by omega)⟩
    obtain ⟨x, y, z, rfl, hx⟩ := hJ.1 w (List.mem_of_getElem? ew)
    have eat : atI (J.map tupI) at' = some (tupI [x, y, z]) := by
      have h1 : (J.map tupI)[at'.toNat]? = some (tupI [x, y, z]) := by rw [List.getElem?_map, ew]; rfl
      have := atI_get h1
      rwa [show ((at'.toNat : Nat) : Int) = at' by omega] at this
    refine wo_ix_t eat ?_
    walk_at "v"
    refine wo_ix_t rfl ?_
    walk_at "v"
    refine wo_ix_t eat ?_
    walk_at "v"
    refine wo_ix_t rfl ?_
    walk_at "v"
    refine (pick_ok hd (by omega) (by omega)).mono ?_
    rintro _ st ⟨v, rfl, v0, v1, hd⟩
    walk_at "v"
    refine wo_add_t ?_ ?_
    · have : (1000 : Nat) ≤ sizeLine := by decide
      rw [List.length_map, hJl, List.length_singleton]; omega
    have hM : ∀ w ∈ J ++ [[x, y, v]], Tri n L w := fun w m => by
      rcases List.mem_append.mp m with m | m
      · exact hJ.1 w m
      · rw [List.mem_singleton.mp m]; exact ⟨x, y, v, rfl, by omega⟩
    refine wo_eq (a := .lst ((sortI (ddp (J ++ [[x, y, v]]))).map tupI)) ?_ ?_
    · have := sortS_at n1 l1 hM (by rw [List.length_append, hJl, List.length_singleton]; omega)
      rw [List.map_append] at this
      exact this
    have hK : WOk n L (sortI (ddp (J ++ [[x, y, v]]))) := sort_wok n1 l1 (fun w m => hM w (mem_ddp.mp m)) (nodup_ddp _)
    generalize sortI (ddp (J ++ [[x, y, v]])) = K at *
    have ecut : EL.cut (J.map tupI) none (some at') ++ EL.cut (J.map tupI) (some (at' + 1)) none = (J.take at'.toNat ++ J.drop (at'.toNat + 1)).map tupI := by
      have h1 : at' = ((at'.toNat : Nat) : Int) := by omega
      have h2 : at' + 1 = ((at'.toNat + 1 : Nat) : Int) := by omega
      rw [h2, h1, EL.cut_upto, EL.cut_from, List.map_append, List.map_take, List.map_drop]
      rfl
    have hC : WOk n L (J.take at'.toNat ++ J.drop (at'.toNat + 1)) := by
      have hs : (J.take at'.toNat ++ J.drop (at'.toNat + 1)).Sublist J := by
        have h := List.Sublist.append (List.Sublist.refl (J.take at'.toNat)) (List.drop_sublist 1 (J.drop at'.toNat))
        rw [List.take_append_drop, List.drop_drop, Nat.add_comm] at h
        rw [Nat.add_comm]; exact h
      exact ⟨fun w m => hJ.1 w (hs.mem m), hJ.2.sublist hs⟩
    walk_at "v"
    refine wo_add_t ?_ ?_
    · have : (1000 : Nat) ≤ sizeLine := by decide
      have h1 := EL.cut_len (xs := J.map tupI) (lo := none) (hi := some at')
      have h2 := EL.cut_len (xs := J.map tupI) (lo := some (at' + 1)) (hi := none)
      rw [List.length_map] at h1 h2
      omega
    rw [ecut]
    walk_at "v"
    generalize J.take at'.toNat ++ J.drop (at'.toNat + 1) = C at *
    refine vs_for (c := fun V : List (List Int) => U.tup (V.map tupI)) (xs := [J, C, K]) (e := fun _ : Unit => ()) (t0 := ()) (fun _ _ st' => Hd st') rfl hd ?_ ?_
    · rintro pre V post _ st ex hd
      have hV : WOk n L V := by
        have : V ∈ [J, C, K] := by rw [ex]; simp
        simp at this
        rcases this with rfl | rfl | rfl <;> assumption
      walk_at "v"
      refine (right_ok hd l0 l1 n0 n1 s0 s1 hV (by have := wok_len hV n1 l1; omega) hB).mono ?_
      rintro _ st ⟨rfl, rfl⟩
      walk_at "v"
      exact ⟨(), rfl, hd⟩
    · rintro _ st hd
      walk_at "v"
      exact ⟨(), rfl, hd⟩
  · rintro _ st hd
    walk_at "v"
    rfl

/-! ### the head and the end -/
def mkD (x : Str) (i : Nat) : He.DefD := ⟨(x, none), x, x, defArgs (top i), defBody (top i), defScope (top i), [], []⟩
def mkMt (c m q : Str) (i j : Nat) : He.DefD := ⟨(c, some m), m, q, defArgs (inn i j), defBody (inn i j), defScope (inn i j), [], []⟩
def fn : List He.DefD := [mkD "_law_hand" 22, mkD "_law_pick" 23, mkD "_law_of" 24, mkD "_law_rooms" 25, mkD "_law_by" 26, mkD "_law_hall" 27, mkMt "Hall" "ends" "Hall.ends" 20 1, mkMt "Hall" "is_certain" "Hall.is_certain" 20 2, mkD "are_rising" 6, mkD "is_whole" 4, mkD "is_below" 5, mkD "are_rising_below" 7, mkD "are_rooms" 12, mkD "are_pairs" 11, mkD "are_ranks" 13, mkD "are_ways" 10, mkD "fault_of" 16, mkMt "Hall" "__init__" "Hall.__init__" 20 0, mkD "_law_built" 28, mkD "_law_right" 29, mkD "law" 30]
def fa : List He.Fa := [.glo "_law_hand", .glo "_law_pick", .glo "_law_of", .glo "_law_rooms", .glo "_law_by", .glo "_law_hall", .glo "are_rising", .glo "is_whole", .glo "is_below", .glo "are_rising_below", .glo "are_rooms", .glo "are_pairs", .glo "are_ranks", .glo "are_ways", .glo "fault_of", .glo "_law_built", .glo "_law_right", .glo "law", .free "all", .free "bool", .free "int", .free "isinstance", .free "len", .free "range", .free "repr", .free "set", .free "sorted", .free "str", .free "tuple", .free "zip", .glo "Hall", .cls "Hall", .mkr "Hall", .meth "Hall" "ends", .meth "Hall" "is_certain", .noat "Hall" "letters", .noat "Hall" "rooms", .noat "Hall" "start", .noat "Hall" "ways", .noat "Hall" "kind", .noat "Hall" "by", .noat "Hall" "goals", .glo "KINDS", .int "MOST_LETTERS" 4]
def ts : List He.Tab := [(fun K => He.ga K "KINDS", ["again", "at last", "pairs", "ranks"])]
def vls : List Vls := [(fun K => He.ga K "KINDS", tab_KINDS.map fun p => (p.1, dvU p.2))]
def names0 : List PySem.Str := ["HallError", "NoHall", "is_whole", "is_below", "are_rising", "are_rising_below", "MOST_LETTERS", "are_ways", "are_pairs", "are_rooms", "are_ranks", "KINDS", "WORDS", "fault_of", "joined", "by_rows", "pair_row", "Hall", "_law_hand", "_law_pick", "_law_of", "_law_rooms", "_law_by", "_law_hall", "_law_built", "_law_right"]
abbrev Rw : PySem.W.OpenRow := PySem.W.OpenLaw.row PySem.Challenge.rw_endlesshall_k10_ends_and_certain_ones
abbrev hk : PySem.W.Hook := hookU 6 fa fn ts vls
def ob (s : PySem.W.SharedT) : AlU := obsUG 6 fa fn ts vls (HandSHeadRun.getT s)
theorem ob_eq (s : PySem.W.SharedT) : ob s = hk.obs s.abs := obsUG_eq (HandSHeadRun.getT_eq s)
def names : List PySem.Str := names0
theorem run (w : World) : HandSHeadRun.RunEq Rw (PySem.W.view Rw.prog [30]) hk ob 3000 names w := PySem.W.byRow2 "special-get-raises" (P := fun w => HandSHeadRun.RunEq Rw (PySem.W.view Rw.prog [30]) hk ob 3000 names w) (fun w os => by kernel_rfl) (fun w os => by kernel_rfl) w
theorem facts {P : Program} {w : World} {K : PySem.W.Frag} {h : Heap} {mg : Str → Option Value} {f : Addr} (X : K.In h) (G : h.Ns mainGlobals mg) (hfa : mg ("law" : Str) = some (.ref f)) (c : SaysU fa fn ts vls w K) :
    ∃ fd : FuncData, (∀ (s : Shared) (v : Value), BindsTo s fd ⟨[v], []⟩ [("_law_script", v)]) ∧ ∀ base : Heap, K.In base → base.Ns mainGlobals mg → FnG P w K mg base CX0 11 f fd ["_law_script"] (spM ⟨K, He.ga K⟩ (L1 m_law)) := by
  obtain ⟨fd__law_hand, F__law_hand⟩ := c.d.def_ 0 (d := mkD "_law_hand" 22) rfl
  obtain ⟨fd__law_pick, F__law_pick⟩ := c.d.def_ 1 (d := mkD "_law_pick" 23) rfl
  obtain ⟨fd__law_of, F__law_of⟩ := c.d.def_ 2 (d := mkD "_law_of" 24) rfl
  obtain ⟨fd__law_rooms, F__law_rooms⟩ := c.d.def_ 3 (d := mkD "_law_rooms" 25) rfl
  obtain ⟨fd__law_by, F__law_by⟩ := c.d.def_ 4 (d := mkD "_law_by" 26) rfl
  obtain ⟨fd__law_hall, F__law_hall⟩ := c.d.def_ 5 (d := mkD "_law_hall" 27) rfl
  obtain ⟨fd_Hall_ends, F_Hall_ends⟩ := c.d.def_ 6 (d := mkMt "Hall" "ends" "Hall.ends" 20 1) rfl
  obtain ⟨fd_Hall_is_certain, F_Hall_is_certain⟩ := c.d.def_ 7 (d := mkMt "Hall" "is_certain" "Hall.is_certain" 20 2) rfl
  obtain ⟨fd_are_rising, F_are_rising⟩ := c.d.def_ 8 (d := mkD "are_rising" 6) rfl
  obtain ⟨fd_is_whole, F_is_whole⟩ := c.d.def_ 9 (d := mkD "is_whole" 4) rfl
  obtain ⟨fd_is_below, F_is_below⟩ := c.d.def_ 10 (d := mkD "is_below" 5) rfl
  obtain ⟨fd_are_rising_below, F_are_rising_below⟩ := c.d.def_ 11 (d := mkD "are_rising_below" 7) rfl
  obtain ⟨fd_are_rooms, F_are_rooms⟩ := c.d.def_ 12 (d := mkD "are_rooms" 12) rfl
  obtain ⟨fd_are_pairs, F_are_pairs⟩ := c.d.def_ 13 (d := mkD "are_pairs" 11) rfl
  obtain ⟨fd_are_ranks, F_are_ranks⟩ := c.d.def_ 14 (d := mkD "are_ranks" 13) rfl
  obtain ⟨fd_are_ways, F_are_ways⟩ := c.d.def_ 15 (d := mkD "are_ways" 10) rfl
  obtain ⟨fd_fault_of, F_fault_of⟩ := c.d.def_ 16 (d := mkD "fault_of" 16) rfl
  obtain ⟨fd_Hall___init__, F_Hall___init__⟩ := c.d.def_ 17 (d := mkMt "Hall" "__init__" "Hall.__init__" 20 0) rfl
  obtain ⟨fd__law_built, F__law_built⟩ := c.d.def_ 18 (d := mkD "_law_built" 28) rfl
  obtain ⟨fd__law_right, F__law_right⟩ := c.d.def_ 19 (d := mkD "_law_right" 29) rfl
  obtain ⟨fd_law, F_law⟩ := c.d.def_ 20 (d := mkD "law" 30) rfl
  have g : ∀ (i : Nat) (x : Str), fa[i]? = some (.glo x) → mg x = some (.ref (He.ga K x)) := fun i x e => He.glo_ok X G (c.d.fact i e)
  have m : ∀ (i : Nat) (x : Str), fa[i]? = some (.free x) → mg x = none := fun i x e => He.free_ok X G (c.d.fact i e)
  obtain ⟨t_MOST_LETTERS, k_MOST_LETTERS⟩ := He.int_ok X G (c.d.fact 43 (f := .int "MOST_LETTERS" 4) rfl)
  have g_law := g 17 "law" rfl
  cases hfa.symm.trans g_law
  let N : En w K mg := {
    m_all := m 18 "all" rfl,
    m_bool := m 19 "bool" rfl,
    m_int := m 20 "int" rfl,
    m_isinstance := m 21 "isinstance" rfl,
    m_len := m 22 "len" rfl,
    m_range := m 23 "range" rfl,
    m_repr := m 24 "repr" rfl,
    m_set := m 25 "set" rfl,
    m_sorted := m 26 "sorted" rfl,
    m_str := m 27 "str" rfl,
    m_tuple := m 28 "tuple" rfl,
    m_zip := m 29 "zip" rfl,
    fd__law_hand := fd__law_hand,
    F__law_hand := F__law_hand,
    g__law_hand := g 0 "_law_hand" rfl,
    b__law_hand := F__law_hand.bindsN fun _ _ _ _ _ _ us hl => match us, hl with | [_], _ => rfl,
    fd__law_pick := fd__law_pick,
    F__law_pick := F__law_pick,
    g__law_pick := g 1 "_law_pick" rfl,
    b__law_pick := F__law_pick.bindsN fun _ _ _ _ _ _ us hl => match us, hl with | [_, _], _ => rfl,
    fd__law_of := fd__law_of,
    F__law_of := F__law_of,
    g__law_of := g 2 "_law_of" rfl,
    b__law_of := F__law_of.bindsN fun _ _ _ _ _ _ us hl => match us, hl with | [_, _], _ => rfl,
    fd__law_rooms := fd__law_rooms,
    F__law_rooms := F__law_rooms,
    g__law_rooms := g 3 "_law_rooms" rfl,
    b__law_rooms := F__law_rooms.bindsN fun _ _ _ _ _ _ us hl => match us, hl with | [_, _], _ => rfl,
    fd__law_by := fd__law_by,
    F__law_by := F__law_by,
    g__law_by := g 4 "_law_by" rfl,
    b__law_by := F__law_by.bindsN fun _ _ _ _ _ _ us hl => match us, hl with | [_, _, _], _ => rfl,
    fd__law_hall := fd__law_hall,
    F__law_hall := F__law_hall,
    g__law_hall := g 5 "_law_hall" rfl,
    b__law_hall := F__law_hall.bindsN fun _ _ _ _ _ _ us hl => match us, hl with | [_, _, _], _ => rfl,
    fd_Hall_ends := fd_Hall_ends,
    F_Hall_ends := F_Hall_ends,
    me_Hall_ends := He.meth_ok (c.d.fact 33 (f := .meth "Hall" "ends") rfl),
    b_Hall_ends := F_Hall_ends.bindsN fun _ _ _ _ _ _ us hl => match us, hl with | [_, _, _], _ => rfl,
    fd_Hall_is_certain := fd_Hall_is_certain,
    F_Hall_is_certain := F_Hall_is_certain,
    me_Hall_is_certain := He.meth_ok (c.d.fact 34 (f := .meth "Hall" "is_certain") rfl),
    b_Hall_is_certain := F_Hall_is_certain.bindsN fun _ _ _ _ _ _ us hl => match us, hl with | [_], _ => rfl,
    fd_are_rising := fd_are_rising,
    F_are_rising := F_are_rising,
    g_are_rising := g 6 "are_rising" rfl,
    b_are_rising := F_are_rising.bindsN fun _ _ _ _ _ _ us hl => match us, hl with | [_], _ => rfl,
    fd_is_whole := fd_is_whole,
    F_is_whole := F_is_whole,
    g_is_whole := g 7 "is_whole" rfl,
    b_is_whole := F_is_whole.bindsN fun _ _ _ _ _ _ us hl => match us, hl with | [_], _ => rfl,
    fd_is_below := fd_is_below,
    F_is_below := F_is_below,
    g_is_below := g 8 "is_below" rfl,
    b_is_below := F_is_below.bindsN fun _ _ _ _ _ _ us hl => match us, hl with | [_, _], _ => rfl,
    fd_are_rising_below := fd_are_rising_below,
    F_are_rising_below := F_are_rising_below,
    g_are_rising_below := g 9 "are_rising_below" rfl,
    b_are_rising_below := F_are_rising_below.bindsN fun _ _ _ _ _ _ us hl => match us, hl with | [_, _], _ => rfl,
    fd_are_rooms := fd_are_rooms,
    F_are_rooms := F_are_rooms,
    g_are_rooms := g 10 "are_rooms" rfl,
    b_are_rooms := F_are_rooms.bindsN fun _ _ _ _ _ _ us hl => match us, hl with | [_, _], _ => rfl,
    fd_are_pairs := fd_are_pairs,
    F_are_pairs := F_are_pairs,
    g_are_pairs := g 11 "are_pairs" rfl,
    b_are_pairs := F_are_pairs.bindsN fun _ _ _ _ _ _ us hl => match us, hl with | [_, _], _ => rfl,
    fd_are_ranks := fd_are_ranks,
    F_are_ranks := F_are_ranks,
    g_are_ranks := g 12 "are_ranks" rfl,
    b_are_ranks := F_are_ranks.bindsN fun _ _ _ _ _ _ us hl => match us, hl with | [_, _], _ => rfl,
    fd_are_ways := fd_are_ways,
    F_are_ways := F_are_ways,
    g_are_ways := g 13 "are_ways" rfl,
    b_are_ways := F_are_ways.bindsN fun _ _ _ _ _ _ us hl => match us, hl with | [_, _, _], _ => rfl,
    fd_fault_of := fd_fault_of,
    F_fault_of := F_fault_of,
    g_fault_of := g 14 "fault_of" rfl,
    b_fault_of := F_fault_of.bindsN fun _ _ _ _ _ _ us hl => match us, hl with | [_, _, _, _, _, _], _ => rfl,
    fd_Hall___init__ := fd_Hall___init__,
    F_Hall___init__ := F_Hall___init__,
    b_Hall___init__ := F_Hall___init__.bindsN fun _ _ _ _ _ _ us hl => match us, hl with | [_, _, _, _, _, _, _], _ => rfl,
    fd__law_built := fd__law_built,
    F__law_built := F__law_built,
    g__law_built := g 15 "_law_built" rfl,
    b__law_built := F__law_built.bindsN fun _ _ _ _ _ _ us hl => match us, hl with | [_], _ => rfl,
    fd__law_right := fd__law_right,
    F__law_right := F__law_right,
    g__law_right := g 16 "_law_right" rfl,
    b__law_right := F__law_right.bindsN fun _ _ _ _ _ _ us hl => match us, hl with | [_], _ => rfl,
    fd_law := fd_law,
    F_law := F_law,
    g_law := g 17 "law" rfl,
    b_law := F_law.bindsN fun _ _ _ _ _ _ us hl => match us, hl with | [_], _ => rfl,
    cl_Hall := He.cls_ok (c.d.fact 31 (f := .cls "Hall") rfl),
    mk_Hall := He.mkr_ok (c.d.fact 32 (f := .mkr "Hall") rfl),
    g_Hall := g 30 "Hall" rfl,
    hf_letters := (allC ⟨He.cls_ok (c.d.fact 31 (f := .cls "Hall") rfl), He.noat_ok (c.d.fact 35 (f := .noat "Hall" "letters") rfl)⟩ allN),
    hf_rooms := (allC ⟨He.cls_ok (c.d.fact 31 (f := .cls "Hall") rfl), He.noat_ok (c.d.fact 36 (f := .noat "Hall" "rooms") rfl)⟩ allN),
    hf_start := (allC ⟨He.cls_ok (c.d.fact 31 (f := .cls "Hall") rfl), He.noat_ok (c.d.fact 37 (f := .noat "Hall" "start") rfl)⟩ allN),
    hf_ways := (allC ⟨He.cls_ok (c.d.fact 31 (f := .cls "Hall") rfl), He.noat_ok (c.d.fact 38 (f := .noat "Hall" "ways") rfl)⟩ allN),
    hf_kind := (allC ⟨He.cls_ok (c.d.fact 31 (f := .cls "Hall") rfl), He.noat_ok (c.d.fact 39 (f := .noat "Hall" "kind") rfl)⟩ allN),
    hf_by := (allC ⟨He.cls_ok (c.d.fact 31 (f := .cls "Hall") rfl), He.noat_ok (c.d.fact 40 (f := .noat "Hall" "by") rfl)⟩ allN),
    hf_goals := (allC ⟨He.cls_ok (c.d.fact 31 (f := .cls "Hall") rfl), He.noat_ok (c.d.fact 41 (f := .noat "Hall" "goals") rfl)⟩ allN),
    g_KINDS := g 42 "KINDS" rfl,
    T_KINDS := tabF (c.keys 0 rfl) (c.val 0 rfl) (allC rfl (allC rfl (allC rfl (allC rfl allN)))),
    t_MOST_LETTERS := t_MOST_LETTERS,
    k_MOST_LETTERS := k_MOST_LETTERS }
  have b_law := FunD.bindsA (ps := ["_law_script"]) F_law fun _ _ _ _ _ _ us hl => match us, hl with | [_], _ => rfl
  exact ⟨fd_law, fun s v => b_law s [v] rfl, fun base _ _ => w_law N⟩
end EK
open PySem PySem.W PySem.Calls PyProof.Rows
set_option maxHeartbeats 0 in
theorem PySem.Challenge.cw_endlesshall_k10_ends_and_certain_ones_holds : PySem.Challenge.rw_endlesshall_k10_ends_and_certain_ones.Holds := by
  w_on; o_law
  refine HandSHeadRun.head_any (r := EK.Rw) (q := view EK.Rw.prog [30]) (H := EK.hk) (ob := EK.ob) (M := 3000) (loose := EK.names) (d := HandSHeadRun.topDef EK.Rw.prog 30) (kwd := []) EK.ob_eq
    (by kernel_rfl) (fun s => by kernel_rfl) EK.run (by kernel_rfl) (by kernel_rfl) (by kernel_rfl) (by rfl) (by first | assumption | decide +kernel) (by decide +kernel) ⟨rfl, rfl, rfl, rfl, rfl, by decide +kernel⟩ ?hw ?hc
  case hw => w_witness2
  case hc =>
    refine EL.walkG (l := PySem.Challenge.rw_endlesshall_k10_ends_and_certain_ones) (n := 63) (k := 11) (x := "_law_script") rfl (by decide) (by kernel_rfl) ⟨rfl, by decide, by decide⟩ ?F
    intro w mg fa h Y G hmg0
    obtain ⟨K, KX, c⟩ := Y
    have hmg : mg ("law" : PySem.Str) = some (.ref fa) := by
      have e : (HandSHeadRun.topDef EK.Rw.prog 30).name = ("law" : PySem.Str) := by kernel_rfl
      rw [← e]
      exact hmg0
    obtain ⟨fd, hb, hF⟩ := EK.facts (P := (PySem.Challenge.rw_endlesshall_k10_ends_and_certain_ones).prog) (w := w) KX G hmg c
    exact ⟨K, fd, _, KX, hb, fun H a ns hl _ hS => UX.sp_law EK.law_ok hl hS, hF⟩


