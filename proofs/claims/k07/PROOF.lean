import PyProof.Rows.All
import Wide.All
import OpenK.AllK
import Wide.FinOn
import KE.KStateDown
import Lean
import HandS.ForMost
import HandS.More
import HandS.WordsExc
import HandS.Defaults
import HandS.IsInst
import HandS.TupAny
import HandS.TupMul
import HandS.Head0
import HandS.Head1
import HandS.Head2
import HandS.HeadEnd
import HandS.HeadHook1
import HandS.HeadHook2
import PyProof.ListMulRoad
import KE.KUnpackStar
import PyProof.FactsAll.tuple_2
import HandS.Style
import HandS.Walk
import HandS.Codes
import KE.LtData
import HandS.Zip
import HandS.Deep
import PySem.Challenge.RW_endlesshall_k07_whole_the_same_words
set_option Elab.async false
set_option linter.all false
set_option maxRecDepth 100000
set_option maxHeartbeats 4000000
set_option autoImplicit false
namespace EL
open PySem PySem.Spec PyProof.Rows L2
/-! ### t * 0, t * 1 -/
theorem mul_same (l : Addr) (its : Array Value) (n : Nat) (dd : Option Addr) (sl : Array (Option Value)) (x : Int) (u : Tok) (c0 : (decide (x < -(2 ^ 63)) || decide (x ≥ 2 ^ 63)) = false) (c1 : (its.isEmpty || x == 1) = true) :
    Meets (Builtin.«tuple.__mul__» ⟨[.ref l, .int x u], []⟩) (fun _ R s => s.heap.get? l = some { cls := .type "tuple", dict := dd, data := .seq its n, slots := sl } ∧ R (.ok (.ret (Value.ref l))) s) :=
  .of_wp fun prog w A R s h => by
    obtain ⟨hp, g, d, tk, os⟩ := s
    obtain ⟨hl, h⟩ := h
    have f1 := AutoSeq1.idx_int
    wp_walk using wpAny_loadPart' hl
    repeat (first
      | (refine wpAny_ite_false (decide_eq_false (by rw [c0]; exact Bool.false_ne_true)) ?_; wp_walk using wpAny_loadPart' hl)
      | (refine wpAny_ite_true (decide_eq_true c1) ?_; wp_walk using wpAny_loadPart' hl))
    exact ⟨_, rfl, h⟩
theorem mul_none (l : Addr) (its : Array Value) (n : Nat) (dd : Option Addr) (sl : Array (Option Value)) (x : Int) (u : Tok) (c0 : (decide (x < -(2 ^ 63)) || decide (x ≥ 2 ^ 63)) = false) (c1 : (its.isEmpty || x == 1) = false) (c2 : (decide (x ≤ 0) || its.isEmpty) = true) :
    Meets (Builtin.«tuple.__mul__» ⟨[.ref l, .int x u], []⟩) (fun _ R s => s.heap.get? l = some { cls := .type "tuple", dict := dd, data := .seq its n, slots := sl } ∧
      R (.ok (.ret (Value.ref s.heap.objs.size))) { s with heap := s.heap.push { cls := Value.type "tuple", data := Data.seq #[] }, toks := s.toks }) :=
  .of_wp fun prog w A R s h => by
    obtain ⟨hp, g, d, tk, os⟩ := s
    obtain ⟨hl, h⟩ := h
    have f1 := AutoSeq1.idx_int
    wp_walk using wpAny_loadPart' hl
    repeat (first
      | (refine wpAny_ite_false (decide_eq_false (by rw [c0]; exact Bool.false_ne_true)) ?_; wp_walk using wpAny_loadPart' hl)
      | (refine wpAny_ite_false (decide_eq_false (by rw [c1]; exact Bool.false_ne_true)) ?_; wp_walk using wpAny_loadPart' hl)
      | (refine wpAny_ite_true (decide_eq_true c2) ?_; wp_walk using wpAny_loadPart' hl))
    exact ⟨_, rfl, h⟩
def rRepA (K : PySem.W.Frag) : R2 := fun x y H Q => ∃ l k xs, x = .ref l ∧ y = .int k ∧ SqT K H l xs ∧ 0 ≤ k ∧ k ≤ 1000 ∧ xs.length ≤ 1000 ∧ ((xs = [] ∨ k = 1) → Q (.ref l) H) ∧
  (xs ≠ [] → k ≠ 1 → ∀ p, H p = none → Q (.ref p) (upd H p (.tup (List.replicate k.toNat xs).flatten)))
section
variable {X : Cx}
theorem op_repA : OpR X (binaryOp .Mult) (rRepA X.K) := by
  intro pins s σ H x y v u Q I rx ry h
  obtain ⟨l, k, xs, rfl, rfl, hT, k0, k1, hz, q1, q2⟩ := h
  by_cases hs : xs = [] ∨ k = 1
  · cases rx
    obtain ⟨t, rfl⟩ := ry
    obtain ⟨its, r, ⟨⟨cls, dd, data, sl⟩, ho, hc, n, hd⟩, hsz⟩ := I.tuple hT
    simp only at hc hd
    subst hc hd
    have c0 : (decide (k < -(2 ^ 63)) || decide (k ≥ 2 ^ 63)) = false := by
      rw [decide_eq_false (by omega), decide_eq_false (by omega)]; rfl
    have c1 : (its.toArray.isEmpty || k == 1) = true := by
      rcases hs with e | e
      · subst e
        have : its = [] := List.eq_nil_of_length_eq_zero r.length.symm
        subst this
        rfl
      · subst e
        exact Bool.or_true _
    exact wpAny_binaryOp_repeat_ref (T := "tuple") (U := "int") (by decide) ⟨_, ho, rfl⟩ (fun s' => typeIs_int s' k t) noFill_tuple_mul F.fills_int_mul F.slot_int_rmul repeat_tuple F.slot_int_index.lookup
      (call_meets F.slot_int_rmul (typeIs_int s k t) F.entry_int_rmul (F.args_int_rmul_2 _ _) (int_rmul_tuple k t l its.toArray n dd sl)
        ⟨ho, rfl, ⟨_, ho, rfl⟩, call_meets F.slot_tuple_mul ⟨_, ho, rfl⟩ F.entry_tuple_mul (F.args_tuple_mul_2 _ _) (mul_same l its.toArray n dd sl k t c0 c1) ⟨ho, ⟨.ref l, H, I, rfl, q1 hs⟩⟩⟩)
  · have hx : xs ≠ [] := fun e => hs (.inl e)
    have hk1 : k ≠ 1 := fun e => hs (.inr e)
    by_cases h2 : 2 ≤ k
    · exact op_repT pins s σ H _ _ v u Q I rx ry ⟨l, k, xs, rfl, rfl, hT, hx, h2, k1, hz, q2 hx hk1⟩
    · have e0 : k = 0 := by omega
      subst e0
      cases rx
      obtain ⟨t, rfl⟩ := ry
      obtain ⟨its, r, ⟨⟨cls, dd, data, sl⟩, ho, hc, n, hd⟩, hsz⟩ := I.tuple hT
      simp only at hc hd
      subst hc hd
      have hi : its.toArray.isEmpty = false := by
        cases its with
        | nil => exact absurd (List.eq_nil_of_length_eq_zero r.length) hx
        | cons a b => rfl
      refine wpAny_binaryOp_repeat_ref (T := "tuple") (U := "int") (by decide) ⟨_, ho, rfl⟩ (fun s' => typeIs_int s' 0 t) noFill_tuple_mul F.fills_int_mul F.slot_int_rmul repeat_tuple F.slot_int_index.lookup
        (call_meets F.slot_int_rmul (typeIs_int s 0 t) F.entry_int_rmul (F.args_int_rmul_2 _ _) (int_rmul_tuple 0 t l its.toArray n dd sl)
          ⟨ho, rfl, ⟨_, ho, rfl⟩, call_meets F.slot_tuple_mul ⟨_, ho, rfl⟩ F.entry_tuple_mul (F.args_tuple_mul_2 _ _) (mul_none l its.toArray n dd sl 0 t (by decide) (by rw [hi]; rfl) (by rw [hi]; rfl)) ⟨ho, ?_⟩⟩)
      refine ⟨.ref s.heap.objs.size, _, I.laid (t' := s.toks) (o := .tup []) (fun b ob z => Heap.get?_push_of_some _ z) (Nat.le_refl _) ?_, rfl, q2 hx hk1 _ (I.hok.fresh (Nat.le_refl _))⟩
      exact ⟨Nat.zero_le _, [], .nil, IsTup.new _ _⟩
end
/-! ### *first, last = a tuple -/
theorem star_last {prog : Program} {w : World} {A : Around} {E : Value → Shared → Prop} {s : Shared} {t : Addr} {its : Array Value} {Q : List Value → Shared → Prop} (hT : IsTup s.heap t its) (hh : A.handled = none) (h1 : 1 ≤ its.size) (h2 : its.size ≤ 16384)
    (k : ∀ (h' : Heap) (tk : Nat), (∀ b o, s.heap.get? b = some o → h'.get? b = some o) →
      Q ([.ref h'.objs.size] ++ its.toList.drop (its.size - 1)) { s with heap := h'.push { cls := .type "list", data := .seq (its.toList.take (its.size - 1)).toArray }, toks := tk }) :
    wpAny (model prog w) A (unpackItems (.ref t) 2 (some 0)) Q E s := by
  have tl : t < s.heap.objs.size := hT.lt
  unfold unpackItems
  refine wpAny_bind ?_
  unfold notIterableAtAll
  refine wpAny_bind (wpAny_specialOf hT.typeIs slot_tuple_iter.lookup (wpAny_pure ?_))
  simp only [Bool.false_eq_true, if_false]
  refine wpAny_bind (wpAny_holding (iter_tuple hT ?_))
  refine wpAny_bind (wpAny_holding (draw_tuple (Nat.ne_of_lt tl) 0 0 _ _ ⟨_, Heap.get?_push_size _ rfl, rfl, rfl⟩ (hT.push _) (Nat.zero_le _) fun g1 it1 sb1 => ?_))
  have hT1 : IsTup g1 t its := (hT.push _).extBut sb1.extBut (Nat.ne_of_lt tl)
  obtain ⟨oi, hoi, _⟩ := id it1
  obtain ⟨ol, hol, _⟩ := id hT1
  rw [if_neg (show ¬ ((List.take 0 (List.drop 0 its.toList)).length < 0) from Nat.not_lt_zero _)]
  refine wpAny_bind (wpAny_holding (PySem.W.kun_collect (s := { s with heap := g1 }) (T := "tuple_iterator") (.inr (.inr (.inr rfl))) (Walks.tuple (A := A.in1) hh s.heap.objs.size t (Nat.ne_of_lt tl) its) (fun j u st => st.1.typeIs) (k := 0) (Nat.zero_le _) ⟨it1, hT1⟩ (Heap.lt_size hoi) (Heap.lt_size hol) (fun g2 tk kp => ?_) (by rw [sizeLine_eq]; omega)))
  rw [List.drop_zero]
  have ln : its.toList.length = its.size := Array.length_toList
  show wpAny _ _ (if its.toList.length < 2 - 1 - 0 then _ else _) _ _ _
  rw [if_neg (by rw [ln]; omega)]
  have old : ∀ b o, s.heap.get? b = some o → g2.get? b = some o := fun b o e => kp b o (Nat.ne_of_lt (Heap.lt_size e)) (sb1.extBut b o (Nat.ne_of_lt (Heap.lt_size e)) (Heap.get?_push_of_some _ e))
  refine wpAny_bind (wpAny_newList (s := { s with heap := g2, toks := tk }) (wpAny_pure ?_) (by rw [List.length_take, ln, sizeLine_eq]; omega))
  have := k g2 tk old
  rw [ln]
  exact this
def gStarLast (K : PySem.W.Frag) (i j : Nat) : TG := fun v σ H Q => ∃ a xs y, v = .ref a ∧ SqT K H a (xs ++ [y]) ∧ xs.length ≤ 16000 ∧ ∀ p, H p = none → Q ((σ.set i (some (.ref p))).set j (some y)) (upd H p (.lst xs))
section
variable {X : Cx}
theorem pg_starlast {i j : Nat} {x y : Str} {px py ps pos : Pos} {kt} (hc : X.calm = true) (hN : X.N.Nodup) (hi : X.N[i]? = some x) (hj : X.N[j]? = some y) (hx : X.env.scope.names.lookup x = some .local) (hy : X.env.scope.names.lookup y = some .local) :
    PG X (.Tuple [.Starred (.Name x px) ps, .Name y py] kt pos) (gStarLast X.K i j) := by
  refine ⟨fun pins s σ H v u Q I r hw => ?_⟩
  obtain ⟨a, xs, z, rfl, hq, hz, hw⟩ := hw
  cases r
  obtain ⟨its, rv, ht, hsz⟩ := I.tuple hq
  have ln : its.length = xs.length + 1 := by rw [← rv.length, List.length_append]; rfl
  have sz : its.toArray.size = xs.length + 1 := by rw [List.size_toArray, ln]
  rw [assign_Tuple]
  refine wpAny_bind (wpAny_standAt ?_)
  show wpAny (model X.prog X.w) X.A (holding [.ref a] (unpackItems (.ref a) 2 (some 0)) >>= fun l => assignInOrder [assign (.Name x px) X.env, assign (.Name y py) X.env] l) _ _ _
  refine wpAny_bind (wpAny_holding (star_last ht (I.ok.hd hc) (by omega) (by omega) fun g tk old => ?_))
  have e1 : its.toArray.size - 1 = xs.length := by omega
  rw [e1]
  have rt := rv.take xs.length
  have rd := rv.drop xs.length
  rw [List.take_left] at rt
  rw [List.drop_left] at rd
  have tl : its.toArray.toList = its := rfl
  rw [tl]
  obtain ⟨u1, eu, ru⟩ := vals1 rd
  rw [eu]
  have I1 : Inv X pins σ H { s with heap := g, toks := tk } := I.kept (t' := tk) old
  have I2 : Inv X pins σ (upd H g.objs.size (.lst xs)) { s with heap := g.push { cls := .type "list", data := .seq (its.take xs.length).toArray }, toks := tk } :=
    I1.laid (t' := tk) (o := .lst xs) (fun b o e => Heap.get?_push_of_some _ e) (Nat.le_refl _) ⟨Nat.le_trans hz (by decide), _, _, rt, Heap.get?_push_size _ rfl⟩
  show wpAny (model X.prog X.w) X.A (assignInOrder [assign (.Name x px) X.env, assign (.Name y py) X.env] [.ref g.objs.size, u1]) _ _ _
  refine assignInOrder_cons (wpAny_assign_Name (store_ok (v := V.ref g.objs.size) I2 hN hi (.inl hx) rfl (fun s3 I3 => ?_) (.inr hx)))
  refine assignInOrder_cons (wpAny_assign_Name (store_ok I3 hN hj (.inl hy) ru (fun s4 I4 => assignInOrder_nil ⟨_, _, I4, ?_⟩) (.inr hy)))
  exact hw _ (I1.hok.fresh (Nat.le_refl _))
end
end EL

set_option Elab.async false
set_option linter.all false
set_option maxRecDepth 100000
set_option maxHeartbeats 4000000
set_option autoImplicit false
namespace EL
open PySem PySem.Spec PyProof.Rows L2

/-! ### heaps: what is kept -/
def Ex (H H' : Hp) : Prop := ∀ a o, H a = some o → H' a = some o
theorem Ex.refl (H : Hp) : Ex H H := fun _ _ h => h
theorem Ex.trans {H H1 H2 : Hp} (a : Ex H H1) (b : Ex H1 H2) : Ex H H2 := fun x o h => b x o (a x o h)
theorem Ex.new {H : Hp} {p : Addr} {o : HO} (h : H p = none) : Ex H (upd H p o) := fun a u e => by
  rw [upd_ne (ne_of_none e h)]; exact e
theorem Ex.mut {H H' : Hp} {p : Addr} {o : HO} (e : Ex H H') (h : H p = none) : Ex H (upd H' p o) := fun a u ha => by
  rw [upd_ne (ne_of_none ha h)]; exact e a u ha
theorem Ex.free {H H' : Hp} (e : Ex H H') {p : Addr} (h : H' p = none) : H p = none := by
  cases q : H p with
  | none => rfl
  | some o => rw [e p o q] at h; cases h

abbrev Bn := Addr → Prop
structure RB (B : Bn) (H H' : Hp) : Prop where
  keep : ∀ a o, ¬ B a → H a = some o → H' a = some o
  tup : ∀ a xs, H a = some (.tup xs) → H' a = some (.tup xs)
  frz : ∀ a o u, H a = some (.frz o u) → H' a = some (.frz o u)
  ban : ∀ a, B a → H a ≠ none → H' a ≠ none
def BOk (B : Bn) (H : Hp) : Prop := ∀ a, B a → H a ≠ none
theorem RB.refl {B : Bn} (H : Hp) : RB B H H := ⟨fun _ _ _ h => h, fun _ _ h => h, fun _ _ _ h => h, fun _ _ h => h⟩
theorem RB.trans {B : Bn} {H H1 H2 : Hp} (a : RB B H H1) (b : RB B H1 H2) : RB B H H2 :=
  ⟨fun x o n h => b.keep x o n (a.keep x o n h), fun x o h => b.tup x o (a.tup x o h), fun x o u h => b.frz x o u (a.frz x o u h), fun x n h => b.ban x n (a.ban x n h)⟩
theorem RB.of_ex {B : Bn} {H H' : Hp} (e : Ex H H') : RB B H H' := ⟨fun a o _ h => e a o h, fun a o h => e a _ h, fun a o u h => e a _ h, fun a _ h => by
  cases q : H a with
  | none => exact absurd q h
  | some o => rw [e a o q]; exact fun z => nomatch z⟩
theorem RB.sub {B B' : Bn} {H H' : Hp} (s : ∀ a, B a → B' a) (r : RB B H H') : RB B' H H' := ⟨fun a o n h => r.keep a o (fun z => n (s a z)) h, r.tup, r.frz, fun a _ h => by
  rcases Classical.em (B a) with q | q
  · exact r.ban a q h
  · cases e : H a with
    | none => exact absurd e h
    | some o => rw [r.keep a o q e]; exact fun z => nomatch z⟩
theorem BOk.mono {B : Bn} {H H' : Hp} (o : BOk B H) (r : RB B H H') : BOk B H' := fun a b => r.ban a b (o a b)
theorem BOk.none {H : Hp} : BOk (fun _ => False) H := fun _ z => z.elim
theorem RB.sqT {B : Bn} {K : PySem.W.Frag} {H H' : Hp} {a : Addr} {xs : List V} (r : RB B H H') (h : SqT K H a xs) : SqT K H' a xs := by
  rcases h with (h | ⟨o, h⟩) | h
  · exact .inl (.inl (r.tup _ _ h))
  · exact .inl (.inr ⟨o, r.frz _ _ _ h⟩)
  · exact .inr h
theorem RB.sqL {B : Bn} {K : PySem.W.Frag} {H H' : Hp} {a : Addr} {xs : List V} (r : RB B H H') (n : ¬ B a) (h : SqL K H a xs) : SqL K H' a xs := by
  rcases h with (h | ⟨o, h⟩) | h
  · exact .inl (.inl (r.keep _ _ n h))
  · exact .inl (.inr ⟨o, r.frz _ _ _ h⟩)
  · exact .inr h
theorem Ex.sqT {K : PySem.W.Frag} {H H' : Hp} {a : Addr} {xs : List V} (r : Ex H H') (h : SqT K H a xs) : SqT K H' a xs := (RB.of_ex (B := fun _ => False) r).sqT h
theorem Ex.sqL {K : PySem.W.Frag} {H H' : Hp} {a : Addr} {xs : List V} (r : Ex H H') (h : SqL K H a xs) : SqL K H' a xs := (RB.of_ex (B := fun _ => False) r).sqL (fun z => z) h
theorem sqT_of {K : PySem.W.Frag} {H : Hp} {a : Addr} {xs : List V} (h : H a = some (.tup xs)) : SqT K H a xs := .inl (.inl h)
theorem sqL_of {K : PySem.W.Frag} {H : Hp} {a : Addr} {xs : List V} (h : H a = some (.lst xs)) : SqL K H a xs := .inl (.inl h)

/-- how a piece of code may change the heap -/
class Rok (B : Bn) (R : Hp → Hp → Prop) : Prop where
  rf : ∀ H, R H H
  tr : ∀ {H H1 H2}, R H H1 → R H1 H2 → R H H2
  ex : ∀ {H H'}, Ex H H' → R H H'
  rb : ∀ {H H'}, R H H' → RB B H H'
instance {B : Bn} : Rok B Ex := ⟨Ex.refl, Ex.trans, id, RB.of_ex⟩
instance {B : Bn} : Rok B (RB B) := ⟨RB.refl, RB.trans, RB.of_ex, id⟩

/-! ### what a value is -/
abbrev PV := V → Hp → Prop
class Stb (B : Bn) (p : PV) : Prop where
  st : ∀ {H H' v}, RB B H H' → p v H → p v H'
def isP (v : V) : PV := fun x _ => x = v
instance {B : Bn} {v : V} : Stb B (isP v) := ⟨fun _ h => h⟩
def exP {α : Type} (C : α → Prop) (q : α → PV) : PV := fun v H => ∃ a, C a ∧ q a v H
instance {B : Bn} {α : Type} {C : α → Prop} {q : α → PV} [∀ a, Stb B (q a)] : Stb B (exP C q) := ⟨fun r ⟨a, c, h⟩ => ⟨a, c, Stb.st r h⟩⟩

section
variable (K : PySem.W.Frag) (B : Bn)
mutual
/-- v is the data d, whose lists are none of B -/
def im : PyData → PV
  | .none => isP .non
  | .bool b => isP (.bl b)
  | .int i => isP (.int i)
  | .str x => isP (.str x)
  | .tuple ds => fun v H => ∃ a vs, v = .ref a ∧ SqT K H a vs ∧ imAll ds vs H
  | .list ds => fun v H => ∃ a vs, v = .ref a ∧ ¬ B a ∧ SqL K H a vs ∧ imAll ds vs H
  | .dict _ => fun _ _ => False
def imAll : List PyData → List V → Hp → Prop
  | [], vs, _ => vs = []
  | d :: ds, vs, H => ∃ v r, vs = v :: r ∧ im d v H ∧ imAll ds r H
end
end
section
variable {K : PySem.W.Frag} {B : Bn} {H H' : Hp} {v : V} {d : PyData}
mutual
theorem im_st (r : RB B H H') : ∀ (d : PyData) (v : V), im K B d v H → im K B d v H'
  | .none, _, h => h
  | .bool _, _, h => h
  | .int _, _, h => h
  | .str _, _, h => h
  | .tuple ds, _, ⟨a, vs, e, s, q⟩ => ⟨a, vs, e, r.sqT s, imAll_st r ds vs q⟩
  | .list ds, _, ⟨a, vs, e, n, s, q⟩ => ⟨a, vs, e, n, r.sqL n s, imAll_st r ds vs q⟩
  | .dict _, _, h => h.elim
theorem imAll_st (r : RB B H H') : ∀ (ds : List PyData) (vs : List V), imAll K B ds vs H → imAll K B ds vs H'
  | [], _, h => h
  | d :: ds, _, ⟨v, w, e, h1, h2⟩ => ⟨v, w, e, im_st r d v h1, imAll_st r ds w h2⟩
end
instance : Stb B (im K B d) := ⟨fun r h => im_st r _ _ h⟩
theorem imAll_len : ∀ {ds : List PyData} {vs : List V}, imAll K B ds vs H → vs.length = ds.length
  | [], _, h => by rw [show _ = _ from h]; rfl
  | d :: ds, _, ⟨v, w, e, _, h2⟩ => by rw [e, List.length_cons, List.length_cons, imAll_len h2]
theorem imAll_get : ∀ {ds : List PyData} {vs : List V} {i : Nat} {d : PyData}, imAll K B ds vs H → ds[i]? = some d → ∃ v, vs[i]? = some v ∧ im K B d v H
  | [], _, _, _, _, e => by simp at e
  | d :: ds, _, 0, d', ⟨v, w, e, h1, h2⟩, e' => by
    simp at e'; subst e' e; exact ⟨v, rfl, h1⟩
  | d :: ds, _, i + 1, d', ⟨v, w, e, h1, h2⟩, e' => by
    subst e
    obtain ⟨x, e1, e2⟩ := imAll_get (i := i) h2 (by simpa using e')
    exact ⟨x, by simpa using e1, e2⟩
theorem imAll_getV : ∀ {ds : List PyData} {vs : List V} {i : Nat} {v : V}, imAll K B ds vs H → vs[i]? = some v → ∃ d, ds[i]? = some d ∧ im K B d v H
  | [], _, _, _, h, e => by rw [show _ = _ from h] at e; simp at e
  | d :: ds, _, 0, v', ⟨v, w, e, h1, h2⟩, e' => by
    subst e; simp at e'; subst e'; exact ⟨d, rfl, h1⟩
  | d :: ds, _, i + 1, v', ⟨v, w, e, h1, h2⟩, e' => by
    subst e
    obtain ⟨x, e1, e2⟩ := imAll_getV (i := i) h2 (by simpa using e')
    exact ⟨x, by simpa using e1, e2⟩
theorem imAll_append : ∀ {ds es : List PyData} {vs ws : List V}, imAll K B ds vs H → imAll K B es ws H → imAll K B (ds ++ es) (vs ++ ws) H
  | [], _, _, _, h, h' => by rw [show _ = _ from h]; exact h'
  | d :: ds, es, _, ws, ⟨v, w, e, h1, h2⟩, h' => by
    subst e; exact ⟨v, w ++ ws, rfl, h1, imAll_append h2 h'⟩
theorem imAll_snoc {ds : List PyData} {vs : List V} {d : PyData} {v : V} (h : imAll K B ds vs H) (h' : im K B d v H) : imAll K B (ds ++ [d]) (vs ++ [v]) H := imAll_append h ⟨v, [], rfl, h', rfl⟩
theorem imAll_take : ∀ {ds : List PyData} {vs : List V} (n : Nat), imAll K B ds vs H → imAll K B (ds.take n) (vs.take n) H
  | _, _, 0, _ => rfl
  | [], _, n + 1, h => by rw [show _ = _ from h]; rfl
  | d :: ds, _, n + 1, ⟨v, w, e, h1, h2⟩ => by subst e; exact ⟨v, _, rfl, h1, imAll_take n h2⟩
theorem imAll_drop : ∀ {ds : List PyData} {vs : List V} (n : Nat), imAll K B ds vs H → imAll K B (ds.drop n) (vs.drop n) H
  | _, _, 0, h => h
  | [], _, n + 1, h => by rw [show _ = _ from h]; rfl
  | d :: ds, _, n + 1, ⟨v, w, e, h1, h2⟩ => by subst e; exact imAll_drop n h2
theorem imAll_ints : ∀ {ns : List Int} {vs : List V}, imAll K B (ns.map .int) vs H ↔ vs = ns.map .int
  | [], vs => Iff.rfl
  | n :: ns, vs => by
    constructor
    · rintro ⟨v, w, e, h1, h2⟩
      rw [e, show v = .int n from h1, imAll_ints.mp h2]; rfl
    · intro e
      exact ⟨.int n, ns.map .int, e, rfl, imAll_ints.mpr rfl⟩
theorem imAll_bools : ∀ {bs : List Bool} {vs : List V}, imAll K B (bs.map .bool) vs H ↔ vs = bs.map .bl
  | [], vs => Iff.rfl
  | n :: ns, vs => by
    constructor
    · rintro ⟨v, w, e, h1, h2⟩
      rw [e, show v = .bl n from h1, imAll_bools.mp h2]; rfl
    · intro e
      exact ⟨.bl n, ns.map .bl, e, rfl, imAll_bools.mpr rfl⟩
mutual
theorem im_dp : ∀ (d : PyData) (v : V), im K B d v H → Dp K H v d
  | .none, _, h => by cases h; exact .non
  | .bool _, _, h => by cases h; exact .bl _
  | .int _, _, h => by cases h; exact .int _
  | .str _, _, h => by cases h; exact .str _
  | .tuple ds, _, ⟨a, vs, e, s, q⟩ => by subst e; exact .tup s (imAll_dp ds vs q)
  | .list ds, _, ⟨a, vs, e, n, s, q⟩ => by subst e; exact .lst s (imAll_dp ds vs q)
  | .dict _, _, h => h.elim
theorem imAll_dp : ∀ (ds : List PyData) (vs : List V), imAll K B ds vs H → DpAll K H vs ds
  | [], _, h => by rw [show _ = _ from h]; exact .nil
  | d :: ds, _, ⟨v, w, e, h1, h2⟩ => by subst e; exact .cons (im_dp d v h1) (imAll_dp ds w h2)
end
end

/-! ### the slots -/
structure SD (B : Bn) (H : Hp) (σ : L2.St) (δ : List (Option PV)) : Prop where
  ok : BOk B H
  len : σ.length = δ.length
  at_ : ∀ (i : Nat) (p : PV), δ[i]? = some (some p) → Stb B p ∧ ∃ v, σ[i]? = some (some v) ∧ p v H
def wip (δ : List (Option PV)) : List Nat → List (Option PV)
  | [] => δ
  | v :: vs => (wip δ vs).set v none
section
variable {B : Bn} {H H' : Hp} {σ : L2.St} {δ : List (Option PV)} {p : PV} {v : V} {i : Nat}
theorem SD.mono (s : SD B H σ δ) (r : RB B H H') : SD B H' σ δ := ⟨s.ok.mono r, s.len, fun i p e => by
  obtain ⟨hp, v, h1, h2⟩ := s.at_ i p e
  exact ⟨hp, v, h1, hp.st r h2⟩⟩
theorem SD.set (s : SD B H σ δ) [hp : Stb B p] (h : p v H) : SD B H (σ.set i (some v)) (δ.set i (some p)) := by
  refine ⟨s.ok, by rw [List.length_set, List.length_set, s.len], fun j q e => ?_⟩
  by_cases hj : i = j
  · subst hj
    have hl : i < δ.length := by
      rcases Nat.lt_or_ge i δ.length with z | z
      · exact z
      · rw [List.getElem?_eq_none (by rw [List.length_set]; exact z)] at e; cases e
    rw [List.getElem?_set_self hl] at e
    cases e
    exact ⟨hp, v, List.getElem?_set_self (by rw [s.len]; exact hl), h⟩
  · rw [List.getElem?_set_ne hj] at e
    obtain ⟨hq, w, h1, h2⟩ := s.at_ j q e
    exact ⟨hq, w, by rw [List.getElem?_set_ne hj]; exact h1, h2⟩
theorem SD.unset (s : SD B H σ δ) {o : Option V} : SD B H (σ.set i o) (δ.set i none) := by
  refine ⟨s.ok, by rw [List.length_set, List.length_set, s.len], fun j q e => ?_⟩
  by_cases hj : i = j
  · subst hj
    have hl : i < δ.length := by
      rcases Nat.lt_or_ge i δ.length with z | z
      · exact z
      · rw [List.getElem?_eq_none (by rw [List.length_set]; exact z)] at e; cases e
    rw [List.getElem?_set_self hl] at e
    cases e
  · rw [List.getElem?_set_ne hj] at e
    obtain ⟨hq, w, h1, h2⟩ := s.at_ j q e
    exact ⟨hq, w, by rw [List.getElem?_set_ne hj]; exact h1, h2⟩
theorem SD.wipe (s : SD B H σ δ) : ∀ vs : List Nat, SD B H (wipe σ vs) (wip δ vs)
  | [] => s
  | v :: vs => (SD.wipe s vs).unset
/-- the slots known by another list -/
def Weak : List (Option PV) → List (Option PV) → Prop
  | [], [] => True
  | _ :: a, none :: b => Weak a b
  | x :: a, y :: b => x = y ∧ Weak a b
  | _, _ => False
theorem Weak.len : ∀ {a b : List (Option PV)}, Weak a b → a.length = b.length
  | [], [], _ => rfl
  | _ :: a, none :: b, h => by rw [List.length_cons, List.length_cons, Weak.len (a := a) (b := b) h]
  | _ :: a, some _ :: b, h => by rw [List.length_cons, List.length_cons, Weak.len (a := a) (b := b) h.2]
  | [], _ :: _, h => h.elim
  | _ :: _, [], h => by cases h
theorem Weak.get : ∀ {a b : List (Option PV)} {i : Nat} {p : PV}, Weak a b → b[i]? = some (some p) → a[i]? = some (some p)
  | [], [], _, _, _, e => by simp at e
  | x :: a, none :: b, 0, p, _, e => by simp at e
  | x :: a, none :: b, i + 1, p, h, e => by
    have := Weak.get (a := a) (b := b) (i := i) (p := p) h (by simpa using e)
    simpa using this
  | x :: a, some y :: b, 0, p, h, e => by
    have e1 : y = p := by simpa using e
    rw [show x = some y from h.1, e1]; rfl
  | x :: a, some y :: b, i + 1, p, h, e => by
    have := Weak.get (a := a) (b := b) (i := i) (p := p) h.2 (by simpa using e)
    simpa using this
  | [], _ :: _, _, _, h, _ => h.elim
  | _ :: _, [], _, _, h, _ => by cases h
theorem SD.weak {δ' : List (Option PV)} (s : SD B H σ δ) (w : Weak δ δ') : SD B H σ δ' := ⟨s.ok, s.len.trans w.len, fun i p e => s.at_ i p (w.get e)⟩
/-- a slot's fact -/
theorem SD.get (s : SD B H σ δ) (e : δ[i]? = some (some p)) : ∃ v, σ[i]? = some (some v) ∧ p v H := (s.at_ i p e).2
end

/-! ### expressions -/
section
variable (R : Hp → Hp → Prop) (B : Bn)
def Ev (te : TE) (δ : List (Option PV)) (H : Hp) (p : PV) : Prop := ∀ σ H1, R H H1 → SD B H1 σ δ → ∀ Q : VK, (∀ v H2, R H1 H2 → p v H2 → Q v H2) → te σ H1 Q
def EvT (tt : TT) (δ : List (Option PV)) (H : Hp) (b : Bool) : Prop := ∀ σ H1, R H H1 → SD B H1 σ δ → ∀ Q : Bool → Hp → Prop, (∀ H2, R H1 H2 → Q b H2) → tt σ H1 Q
/-- a test whose answer is open -/
def EvTx (tt : TT) (δ : List (Option PV)) (H : Hp) (C : Bool → Prop) : Prop := ∀ σ H1, R H H1 → SD B H1 σ δ → ∀ Q : Bool → Hp → Prop, (∀ b H2, C b → R H1 H2 → Q b H2) → tt σ H1 Q
def pAll : List PV → List V → Hp → Prop
  | [], vs, _ => vs = []
  | p :: ps, vs, H => ∃ v r, vs = v :: r ∧ p v H ∧ pAll ps r H
def EvA (ta : TA) (δ : List (Option PV)) (H : Hp) (ps : List PV) : Prop := ∀ σ H1, R H H1 → SD B H1 σ δ → ∀ Q : List V → Hp → Prop, (∀ vs H2, R H1 H2 → pAll ps vs H2 → Q vs H2) → ta σ H1 Q
def EvO (to : TO) (δ : List (Option PV)) (H : Hp) (o : Option Int) : Prop := ∀ σ H1, R H H1 → SD B H1 σ δ → ∀ Q : Option Int → Hp → Prop, (∀ H2, R H1 H2 → Q o H2) → to σ H1 Q
/-- an operation on values -/
def RV (r : R2) (x y : V) (H : Hp) (p : PV) : Prop := ∀ Q : VK, (∀ v H2, Ex H H2 → p v H2 → Q v H2) → r x y H Q
def RC (r : List V → Hp → VK → Prop) (vs : List V) (H : Hp) (p : PV) : Prop := ∀ Q : VK, (∀ v H2, R H H2 → p v H2 → Q v H2) → r vs H Q
end
end EL

set_option Elab.async false
set_option linter.all false
set_option maxRecDepth 100000
set_option maxHeartbeats 4000000
set_option autoImplicit false
namespace EL
open PySem PySem.Spec PyProof.Rows L2
/-! ### rules of several kinds at once -/
def rOr (r r' : R2) : R2 := fun x y H Q => r x y H Q ∨ r' x y H Q
def rSlOr (r r' : V → Option Int → Option Int → Hp → VK → Prop) : V → Option Int → Option Int → Hp → VK → Prop := fun x lo hi H Q => r x lo hi H Q ∨ r' x lo hi H Q
def iOr (w w' : TI) : TI := fun σ H R => w σ H R ∨ w' σ H R
def rAddS : R2 := fun x y H Q => ∃ i j : Str, x = .str i ∧ y = .str j ∧ i.length + j.length ≤ sizeLine ∧ Q (.str (i ++ j)) H
def rAddU (K : PySem.W.Frag) : R2 := rOr (rI0 fun i j => .int (i + j)) (rOr (rCatA K) (rOr rCat rAddS))
def rMulU (K : PySem.W.Frag) : R2 := rOr (rI CMul fun i j => .int (i * j)) (rOr (rRepA K) rRep)
def rEqU (K : PySem.W.Frag) : R2 := rOr (rEqD K) rEq
def rNeU (K : PySem.W.Frag) : R2 := rOr (rNeD K) rNe
def rSlU (K : PySem.W.Frag) : V → Option Int → Option Int → Hp → VK → Prop := rSlOr (rSlL K) (rSlA K)
def iSeqU (K : PySem.W.Frag) (t : TE) : TI := iOr (iList K t) (iTup K t)
section
variable {X : Cx}
theorem op_or {f : Value → Value → Sem Value} {r r' : R2} (h : OpR X f r) (h' : OpR X f r') : OpR X f (rOr r r') := fun pins s σ H x y v u Q I rx ry q => by
  rcases q with q | q
  · exact h pins s σ H x y v u Q I rx ry q
  · exact h' pins s σ H x y v u Q I rx ry q
theorem op_addU : OpR X (binaryOp .Add) (rAddU X.K) := op_or op_add (op_or op_catA (op_or op_cat op_add_str))
theorem op_mulU : OpR X (binaryOp .Mult) (rMulU X.K) := op_or op_mul (op_or op_repA op_rep)
theorem op_eqU (hu : X.A.units + 64 < cLine) : OpR X (compareOp .Eq) (rEqU X.K) := op_or (op_eqD hu) op_eq
theorem op_neU (hu : X.A.units + 64 < cLine) : OpR X (compareOp .NotEq) (rNeU X.K) := op_or (op_neD hu) op_ne
theorem sl_seqU : SlR X (rSlU X.K) := SlR.or sl_list sl_tupA
theorem pi_or {tg l : Expr} {w w' : TI} (h : PI X tg l w) (h' : PI X tg l w') : PI X tg l (iOr w w') := ⟨fun pins s σ H R I q => by
  rcases q with q | q
  · exact h.run pins s σ H R I q
  · exact h'.run pins s σ H R I q⟩
theorem pi_seqU {tg l : Expr} {t : TE} (h : PE X l t) : PI X tg l (iSeqU X.K t) := pi_or (pi_list h) (pi_tup h)
end

/-! ### expressions by what their values are -/
section
variable {R : Hp → Hp → Prop} {B : Bn} [rk : Rok B R] {K : PySem.W.Frag} {δ : List (Option PV)} {H H' : Hp} {ta tb tc te : TE} {p q w : PV} {tt tu : TT}
theorem Ev.at_ (h : Ev R B te δ H p) (r : R H H') : Ev R B te δ H' p := fun σ H2 r2 => h σ H2 (rk.tr r r2)
theorem EvT.at_ {b : Bool} (h : EvT R B tt δ H b) (r : R H H') : EvT R B tt δ H' b := fun σ H2 r2 => h σ H2 (rk.tr r r2)
theorem Ev.conv (h : Ev R B te δ H p) (c : ∀ v H1, R H H1 → p v H1 → q v H1) : Ev R B te δ H q := fun σ H1 r S Q k => h σ H1 r S Q fun v H2 r2 pv => k v H2 r2 (c v H2 (rk.tr r r2) pv)
theorem Ev.is (h : Ev R B te δ H p) (e : p = q) : Ev R B te δ H q := e ▸ h
theorem ev_var {i : Nat} (h : δ[i]? = some (some p)) : Ev R B (tVar i) δ H p := fun σ H1 r S Q k => let ⟨v, e, pv⟩ := S.get h; ⟨v, e, k v H1 (rk.rf H1) pv⟩
theorem ev_c {v : V} : Ev R B (tC v) δ H (isP v) := fun σ H1 r S Q k => k v H1 (rk.rf H1) rfl
theorem ev_int {i : Int} : Ev R B (tC (.int i)) δ H (im K B (.int i)) := ev_c
theorem ev_bool {b : Bool} : Ev R B (tC (.bl b)) δ H (im K B (.bool b)) := ev_c
theorem ev_str {x : Str} : Ev R B (tC (.str x)) δ H (im K B (.str x)) := ev_c
theorem ev_non : Ev R B (tC .non) δ H (im K B .none) := ev_c
theorem ev_op {r : R2} [Stb B p] (ha : Ev R B ta δ H p) (hb : Ev R B tb δ H q) (hr : ∀ x y H1, R H H1 → BOk B H1 → p x H1 → q y H1 → RV r x y H1 w) : Ev R B (tOp r ta tb) δ H w :=
  fun σ H1 r1 S Q k => ha σ H1 r1 S _ fun x H2 r2 px => hb σ H2 (rk.tr r1 r2) (S.mono (rk.rb r2)) _ fun y H3 r3 qy =>
    hr x y H3 (rk.tr (rk.tr r1 r2) r3) (S.ok.mono ((rk.rb r2).trans (rk.rb r3))) (Stb.st (rk.rb r3) px) qy Q fun v H4 e4 wv => k v H4 (rk.tr (rk.tr r2 r3) (rk.ex e4)) wv
theorem ev_un {r : V → Hp → VK → Prop} (ha : Ev R B ta δ H p) (hr : ∀ x H1, R H H1 → p x H1 → ∀ Q : VK, (∀ v H2, Ex H1 H2 → w v H2 → Q v H2) → r x H1 Q) : Ev R B (tUn r ta) δ H w :=
  fun σ H1 r1 S Q k => ha σ H1 r1 S _ fun x H2 r2 px => hr x H2 (rk.tr r1 r2) px Q fun v H3 e3 wv => k v H3 (rk.tr r2 (rk.ex e3)) wv
theorem rv_I0 {g : Int → Int → V} {i j : Int} {x y : V} (hx : x = .int i) (hy : y = .int j) : RV (rI0 g) x y H (isP (g i j)) := fun Q k => ⟨i, j, hx, hy, k _ H (Ex.refl H) rfl⟩
theorem rv_I {C : Int → Int → Prop} {g : Int → Int → V} {i j : Int} {x y : V} (hx : x = .int i) (hy : y = .int j) (hc : C i j) : RV (rI C g) x y H (isP (g i j)) := fun Q k => ⟨i, j, hx, hy, hc, k _ H (Ex.refl H) rfl⟩
/-- ints -/
theorem ev_I0 {g : Int → Int → V} {i j : Int} (ha : Ev R B ta δ H (im K B (.int i))) (hb : Ev R B tb δ H (im K B (.int j))) : Ev R B (tOp (rI0 g) ta tb) δ H (isP (g i j)) := ev_op ha hb fun _ _ _ _ _ hx hy => rv_I0 hx hy
theorem ev_lt {i j : Int} (ha : Ev R B ta δ H (im K B (.int i))) (hb : Ev R B tb δ H (im K B (.int j))) : Ev R B (tOp (rI0 fun i j => .bl (decide (i < j))) ta tb) δ H (im K B (.bool (decide (i < j)))) := ev_I0 ha hb
theorem ev_le {i j : Int} (ha : Ev R B ta δ H (im K B (.int i))) (hb : Ev R B tb δ H (im K B (.int j))) : Ev R B (tOp (rI0 fun i j => .bl (decide (i ≤ j))) ta tb) δ H (im K B (.bool (decide (i ≤ j)))) := ev_I0 ha hb
theorem ev_gt {i j : Int} (ha : Ev R B ta δ H (im K B (.int i))) (hb : Ev R B tb δ H (im K B (.int j))) : Ev R B (tOp (rI0 fun i j => .bl (decide (j < i))) ta tb) δ H (im K B (.bool (decide (j < i)))) := ev_I0 ha hb
theorem ev_ge {i j : Int} (ha : Ev R B ta δ H (im K B (.int i))) (hb : Ev R B tb δ H (im K B (.int j))) : Ev R B (tOp (rI0 fun i j => .bl (decide (j ≤ i))) ta tb) δ H (im K B (.bool (decide (j ≤ i)))) := ev_I0 ha hb
theorem ev_sub {i j : Int} (ha : Ev R B ta δ H (im K B (.int i))) (hb : Ev R B tb δ H (im K B (.int j))) : Ev R B (tOp (rI0 fun i j => .int (i - j)) ta tb) δ H (im K B (.int (i - j))) := ev_I0 ha hb
theorem ev_add {i j : Int} (ha : Ev R B ta δ H (im K B (.int i))) (hb : Ev R B tb δ H (im K B (.int j))) : Ev R B (tOp (rAddU K) ta tb) δ H (im K B (.int (i + j))) :=
  ev_op ha hb fun _ _ _ _ _ hx hy Q k => .inl (rv_I0 hx hy Q k)
theorem ev_mul {i j : Int} (ha : Ev R B ta δ H (im K B (.int i))) (hb : Ev R B tb δ H (im K B (.int j))) (hc : CMul i j) : Ev R B (tOp (rMulU K) ta tb) δ H (im K B (.int (i * j))) :=
  ev_op ha hb fun _ _ _ _ _ hx hy Q k => .inl (rv_I hx hy hc Q k)
theorem ev_mod {i j : Int} (ha : Ev R B ta δ H (im K B (.int i))) (hb : Ev R B tb δ H (im K B (.int j))) (hc : j ≠ 0) : Ev R B (tOp (rI (fun _ j => j ≠ 0) fun i j => .int (i.fmod j)) ta tb) δ H (im K B (.int (i.fmod j))) :=
  ev_op ha hb fun _ _ _ _ _ hx hy => rv_I (C := fun _ j => j ≠ 0) (g := fun i j => .int (i.fmod j)) hx hy hc
theorem ev_fdiv {i j : Int} (ha : Ev R B ta δ H (im K B (.int i))) (hb : Ev R B tb δ H (im K B (.int j))) (hc : CDivN i j) : Ev R B (tOp (rI CDivN fun i j => .int (i.fdiv j)) ta tb) δ H (im K B (.int (i.fdiv j))) :=
  ev_op ha hb fun _ _ _ _ _ hx hy => rv_I (C := CDivN) (g := fun i j => .int (i.fdiv j)) hx hy hc
theorem ev_pow {i j : Int} (ha : Ev R B ta δ H (im K B (.int i))) (hb : Ev R B tb δ H (im K B (.int j))) (hc : CPow i j) : Ev R B (tOp (rI CPow fun i j => .int (i ^ j.toNat)) ta tb) δ H (im K B (.int (i ^ j.toNat))) :=
  ev_op ha hb fun _ _ _ _ _ hx hy => rv_I (C := CPow) (g := fun i j => .int (i ^ j.toNat)) hx hy hc
theorem ev_neg {i : Int} (ha : Ev R B ta δ H (im K B (.int i))) : Ev R B (tUn (rU fun i => .int (-i)) ta) δ H (im K B (.int (-i))) :=
  ev_un ha fun x H1 _ hx Q k => ⟨i, hx, k _ H1 (Ex.refl H1) rfl⟩
/-- the items of tuples, of lists -/
theorem atI_im {ds : List PyData} {vs : List V} {i : Int} {d : PyData} (h : imAll K B ds vs H) (e : atI ds i = some d) : ∃ v, atI vs i = some v ∧ im K B d v H := by
  unfold atI at e ⊢
  rw [imAll_len h]
  cases q : ixN ds.length i with
  | none => rw [q] at e; cases e
  | some j =>
    rw [q] at e
    obtain ⟨v, e1, e2⟩ := imAll_get h (show ds[j]? = some d from e)
    exact ⟨v, e1, e2⟩
theorem ev_ixT {ds : List PyData} {i : Int} {d : PyData} (ha : Ev R B ta δ H (im K B (.tuple ds))) (hb : Ev R B tb δ H (im K B (.int i))) (e : atI ds i = some d) : Ev R B (tOp (rIx K) ta tb) δ H (im K B d) :=
  ev_op ha hb fun x y H1 _ _ ⟨a, vs, hx, hs, hv⟩ hy Q k => by
    obtain ⟨v, e1, e2⟩ := atI_im hv e
    exact .inr (.inl ⟨a, vs, i, v, hx, hy, hs, e1, k v H1 (Ex.refl H1) e2⟩)
theorem ev_ixL {ds : List PyData} {i : Int} {d : PyData} (ha : Ev R B ta δ H (im K B (.list ds))) (hb : Ev R B tb δ H (im K B (.int i))) (e : atI ds i = some d) : Ev R B (tOp (rIx K) ta tb) δ H (im K B d) :=
  ev_op ha hb fun x y H1 _ _ ⟨a, vs, hx, _, hs, hv⟩ hy Q k => by
    obtain ⟨v, e1, e2⟩ := atI_im hv e
    exact .inl ⟨a, vs, i, v, hx, hy, hs, e1, k v H1 (Ex.refl H1) e2⟩
/-- arguments -/
theorem ea_nil : EvA R B tNil δ H [] := fun σ H1 r S Q k => k [] H1 (rk.rf H1) rfl
theorem ea_cons {tr : TA} {ps : List PV} [Stb B p] (h : Ev R B ta δ H p) (hr : EvA R B tr δ H ps) : EvA R B (tCons ta tr) δ H (p :: ps) := fun σ H1 r S Q k =>
  h σ H1 r S _ fun v H2 r2 pv => hr σ H2 (rk.tr r r2) (S.mono (rk.rb r2)) _ fun vs H3 r3 pr => k (v :: vs) H3 (rk.tr r2 r3) ⟨v, vs, rfl, Stb.st (rk.rb r3) pv, pr⟩
theorem ev_cb {r : List V → Hp → VK → Prop} {ta : TA} {ps : List PV} (h : EvA R B ta δ H ps) (hr : ∀ vs H1, R H H1 → BOk B H1 → pAll ps vs H1 → RC R r vs H1 w) : Ev R B (tCB r ta) δ H w := fun σ H1 r1 S Q k =>
  h σ H1 r1 S _ fun vs H2 r2 pr => hr vs H2 (rk.tr r1 r2) (S.ok.mono (rk.rb r2)) pr Q fun v H3 r3 wv => k v H3 (rk.tr r2 r3) wv
theorem imAll_of_pAll : ∀ {ds : List PyData} {vs : List V}, pAll (ds.map (im K B)) vs H → imAll K B ds vs H
  | [], _, h => h
  | d :: ds, _, ⟨v, r, e, h1, h2⟩ => ⟨v, r, e, h1, imAll_of_pAll h2⟩
theorem pAll_of_imAll : ∀ {ds : List PyData} {vs : List V}, imAll K B ds vs H → pAll (ds.map (im K B)) vs H
  | [], _, h => h
  | d :: ds, _, ⟨v, r, e, h1, h2⟩ => ⟨v, r, e, h1, pAll_of_imAll h2⟩
/-- new tuples and lists -/
theorem not_ban {p : Addr} (o : BOk B H) (h : H p = none) : ¬ B p := fun b => o p b h
theorem ev_tup {ta : TA} {ds : List PyData} (h : EvA R B ta δ H (ds.map (im K B))) (hl : ds.length ≤ sizeLine) : Ev R B (tTup ta) δ H (im K B (.tuple ds)) := fun σ H1 r1 S Q k =>
  h σ H1 r1 S _ fun vs H2 r2 pr => by
    have hv := imAll_of_pAll pr
    refine ⟨by rw [imAll_len hv]; exact hl, fun a ha => k _ _ (rk.tr r2 (rk.ex (Ex.new ha))) ⟨a, vs, rfl, sqT_of upd_same, imAll_st (RB.of_ex (Ex.new ha)) _ _ hv⟩⟩
theorem ev_lst {ta : TA} {ds : List PyData} (h : EvA R B ta δ H (ds.map (im K B))) (hl : ds.length ≤ sizeLine) : Ev R B (tLst ta) δ H (im K B (.list ds)) := fun σ H1 r1 S Q k =>
  h σ H1 r1 S _ fun vs H2 r2 pr => by
    have hv := imAll_of_pAll pr
    refine ⟨by rw [imAll_len hv]; exact hl, fun a ha => k _ _ (rk.tr r2 (rk.ex (Ex.new ha))) ⟨a, vs, rfl, not_ban (S.ok.mono (rk.rb r2)) ha, sqL_of upd_same, imAll_st (RB.of_ex (Ex.new ha)) _ _ hv⟩⟩
/-- len, tuple(..), list(..) -/
def rLenQ (K : PySem.W.Frag) : List V → Hp → VK → Prop := fun xs H Q => ∃ p ys, xs = [.ref p] ∧ (SqL K H p ys ∨ SqT K H p ys) ∧ Q (.int ys.length) H
theorem ev_lenT {ds : List PyData} (ha : Ev R B ta δ H (im K B (.tuple ds))) : Ev R B (tCB (rLenQ K) (tCons ta tNil)) δ H (im K B (.int ds.length)) :=
  ev_cb (ea_cons ha ea_nil) fun vs H1 _ _ ⟨v, r, e, ⟨a, xs, e1, s, h⟩, e2⟩ Q k => by
    subst e e1; cases (show r = [] from e2)
    exact ⟨a, xs, rfl, .inr s, k _ H1 (rk.rf H1) (by rw [imAll_len h]; rfl)⟩
theorem ev_lenL {ds : List PyData} (ha : Ev R B ta δ H (im K B (.list ds))) : Ev R B (tCB (rLenQ K) (tCons ta tNil)) δ H (im K B (.int ds.length)) :=
  ev_cb (ea_cons ha ea_nil) fun vs H1 _ _ ⟨v, r, e, ⟨a, xs, e1, _, s, h⟩, e2⟩ Q k => by
    subst e e1; cases (show r = [] from e2)
    exact ⟨a, xs, rfl, .inl s, k _ H1 (rk.rf H1) (by rw [imAll_len h]; rfl)⟩
def rTupQ (K : PySem.W.Frag) : List V → Hp → VK → Prop := fun xs H Q => ∃ p ys, xs = [.ref p] ∧ ((SqL K H p ys ∧ ∀ l, H l = none → Q (.ref l) (upd H l (.tup ys))) ∨ (SqT K H p ys ∧ Q (.ref p) H))
theorem ev_tupleL {ds : List PyData} (ha : Ev R B ta δ H (im K B (.list ds))) : Ev R B (tCB (rTupQ K) (tCons ta tNil)) δ H (im K B (.tuple ds)) :=
  ev_cb (ea_cons ha ea_nil) fun vs H1 _ _ ⟨v, r, e, ⟨a, xs, e1, _, s, h⟩, e2⟩ Q k => by
    subst e e1; cases (show r = [] from e2)
    exact ⟨a, xs, rfl, .inl ⟨s, fun l hl => k _ _ (rk.ex (Ex.new hl)) ⟨l, xs, rfl, sqT_of upd_same, imAll_st (RB.of_ex (Ex.new hl)) _ _ h⟩⟩⟩
theorem ev_tupleT {ds : List PyData} (ha : Ev R B ta δ H (im K B (.tuple ds))) : Ev R B (tCB (rTupQ K) (tCons ta tNil)) δ H (im K B (.tuple ds)) :=
  ev_cb (ea_cons ha ea_nil) fun vs H1 _ _ ⟨v, r, e, ⟨a, xs, e1, s, h⟩, e2⟩ Q k => by
    subst e e1; cases (show r = [] from e2)
    exact ⟨a, xs, rfl, .inr ⟨s, k _ H1 (rk.rf H1) ⟨a, xs, rfl, s, h⟩⟩⟩
def rListQ (K : PySem.W.Frag) : List V → Hp → VK → Prop := fun xs H Q => ∃ p ys, xs = [.ref p] ∧ (SqL K H p ys ∨ SqT K H p ys) ∧ ∀ l, H l = none → Q (.ref l) (upd H l (.lst ys))
theorem ev_listL {ds : List PyData} (ha : Ev R B ta δ H (im K B (.list ds))) : Ev R B (tCB (rListQ K) (tCons ta tNil)) δ H (im K B (.list ds)) :=
  ev_cb (ea_cons ha ea_nil) fun vs H1 _ o ⟨v, r, e, ⟨a, xs, e1, _, s, h⟩, e2⟩ Q k => by
    subst e e1; cases (show r = [] from e2)
    exact ⟨a, xs, rfl, .inl s, fun l hl => k _ _ (rk.ex (Ex.new hl)) ⟨l, xs, rfl, not_ban o hl, sqL_of upd_same, imAll_st (RB.of_ex (Ex.new hl)) _ _ h⟩⟩
theorem ev_listT {ds : List PyData} (ha : Ev R B ta δ H (im K B (.tuple ds))) : Ev R B (tCB (rListQ K) (tCons ta tNil)) δ H (im K B (.list ds)) :=
  ev_cb (ea_cons ha ea_nil) fun vs H1 _ o ⟨v, r, e, ⟨a, xs, e1, s, h⟩, e2⟩ Q k => by
    subst e e1; cases (show r = [] from e2)
    exact ⟨a, xs, rfl, .inr s, fun l hl => k _ _ (rk.ex (Ex.new hl)) ⟨l, xs, rfl, not_ban o hl, sqL_of upd_same, imAll_st (RB.of_ex (Ex.new hl)) _ _ h⟩⟩
/-- t + u -/
theorem ev_catT {ds es : List PyData} (ha : Ev R B ta δ H (im K B (.tuple ds))) (hb : Ev R B tb δ H (im K B (.tuple es))) (hl : ds.length + es.length ≤ sizeLine) : Ev R B (tOp (rAddU K) ta tb) δ H (im K B (.tuple (ds ++ es))) :=
  ev_op ha hb fun x y H1 _ _ ⟨a, vs, hx, hs, hv⟩ ⟨b, us, hy, ht, hu⟩ Q k => by
    refine .inr (.inl ⟨a, b, vs, us, hx, hy, hs, ht, by rw [imAll_len hv, imAll_len hu]; exact hl, fun e => ?_, fun _ e => ?_, fun _ _ l hn => ?_⟩)
    · subst e
      have : ds = [] := List.eq_nil_of_length_eq_zero (imAll_len hv).symm
      subst this
      exact k _ H1 (Ex.refl H1) ⟨b, us, rfl, ht, hu⟩
    · subst e
      have : es = [] := List.eq_nil_of_length_eq_zero (imAll_len hu).symm
      subst this
      exact k _ H1 (Ex.refl H1) (by rw [List.append_nil]; exact ⟨a, vs, rfl, hs, hv⟩)
    · exact k _ _ (Ex.new hn) ⟨l, vs ++ us, rfl, sqT_of upd_same, imAll_st (RB.of_ex (Ex.new hn)) _ _ (imAll_append hv hu)⟩
theorem imAll_rep {ds : List PyData} {vs : List V} (h : imAll K B ds vs H) : ∀ n : Nat, imAll K B (List.replicate n ds).flatten (List.replicate n vs).flatten H
  | 0 => rfl
  | n + 1 => by
    rw [List.replicate_succ, List.replicate_succ, List.flatten_cons, List.flatten_cons]
    exact imAll_append h (imAll_rep h n)
/-- t * k -/
theorem rv_rep {ds : List PyData} {x y : V} {k : Int} (hx : im K B (.tuple ds) x H) (hy : y = .int k) (h0 : 0 ≤ k) (h1 : k ≤ 1000) (hl : ds.length ≤ 1000) : RV (rMulU K) x y H (im K B (.tuple (List.replicate k.toNat ds).flatten)) := fun Q q => by
  obtain ⟨a, vs, e, s, hv⟩ := hx
  refine .inr (.inl ⟨a, k, vs, e, hy, s, h0, h1, by rw [imAll_len hv]; exact hl, fun z => q _ H (Ex.refl H) ⟨a, vs, rfl, s, ?_⟩, fun _ _ p hp => q _ _ (Ex.new hp) ⟨p, _, rfl, sqT_of upd_same, imAll_st (RB.of_ex (Ex.new hp)) _ _ (imAll_rep hv _)⟩⟩)
  rcases z with z | z
  · subst z
    have : ds = [] := List.eq_nil_of_length_eq_zero (imAll_len hv).symm
    subst this
    rw [show (List.replicate k.toNat ([] : List PyData)).flatten = [] by simp]
    exact hv
  · subst z
    rw [show (List.replicate (1 : Int).toNat ds).flatten = ds by simp]
    exact hv
theorem ev_rep {ds : List PyData} {k : Int} (ha : Ev R B ta δ H (im K B (.tuple ds))) (hb : Ev R B tb δ H (im K B (.int k))) (h0 : 0 ≤ k) (h1 : k ≤ 1000) (hl : ds.length ≤ 1000) : Ev R B (tOp (rMulU K) ta tb) δ H (im K B (.tuple (List.replicate k.toNat ds).flatten)) :=
  ev_op ha hb fun x y H1 _ _ hx hy => rv_rep hx hy h0 h1 hl
/-- == and != of data -/
theorem ev_eq {d e : PyData} (ha : Ev R B ta δ H (im K B d)) (hb : Ev R B tb δ H (im K B e)) (h1 : SeqAt.shaped d = true) (h2 : SeqAt.shaped e = true) : Ev R B (tOp (rEqU K) ta tb) δ H (im K B (.bool (PyData.eqv d e))) :=
  ev_op ha hb fun x y H1 _ _ hx hy Q k => .inl ⟨d, e, im_dp _ _ hx, im_dp _ _ hy, h1, h2, k _ H1 (Ex.refl H1) rfl⟩
theorem ev_ne {d e : PyData} (ha : Ev R B ta δ H (im K B d)) (hb : Ev R B tb δ H (im K B e)) (h1 : SeqAt.shaped d = true) (h2 : SeqAt.shaped e = true) : Ev R B (tOp (rNeU K) ta tb) δ H (im K B (.bool (!PyData.eqv d e))) :=
  ev_op ha hb fun x y H1 _ _ hx hy Q k => .inl ⟨d, e, im_dp _ _ hx, im_dp _ _ hy, h1, h2, k _ H1 (Ex.refl H1) rfl⟩
theorem ev_eqI {i j : Int} (ha : Ev R B ta δ H (im K B (.int i))) (hb : Ev R B tb δ H (im K B (.int j))) : Ev R B (tOp (rEqU K) ta tb) δ H (im K B (.bool (decide (i = j)))) :=
  ev_op ha hb fun x y H1 _ _ hx hy Q k => .inr ⟨by rw [show x = _ from hx, show y = _ from hy]; rfl, k _ H1 (Ex.refl H1) (by rw [show x = _ from hx, show y = _ from hy]; show V.bl _ = V.bl _; congr 1; by_cases z : i = j <;> simp [z])⟩
theorem ev_neI {i j : Int} (ha : Ev R B ta δ H (im K B (.int i))) (hb : Ev R B tb δ H (im K B (.int j))) : Ev R B (tOp (rNeU K) ta tb) δ H (im K B (.bool (!decide (i = j)))) :=
  ev_op ha hb fun x y H1 _ _ hx hy Q k => .inr ⟨by rw [show x = _ from hx, show y = _ from hy]; rfl, k _ H1 (Ex.refl H1) (by rw [show x = _ from hx, show y = _ from hy]; show V.bl _ = V.bl _; congr 1; by_cases z : i = j <;> simp [z])⟩
theorem ev_eqS {i j : Str} (ha : Ev R B ta δ H (im K B (.str i))) (hb : Ev R B tb δ H (im K B (.str j))) : Ev R B (tOp (rEqU K) ta tb) δ H (im K B (.bool (decide (i = j)))) :=
  ev_op ha hb fun x y H1 _ _ hx hy Q k => .inr ⟨by rw [show x = _ from hx, show y = _ from hy]; rfl, k _ H1 (Ex.refl H1) (by rw [show x = _ from hx, show y = _ from hy]; show V.bl _ = V.bl _; congr 1; by_cases z : i = j <;> simp [z])⟩
theorem ev_neS {i j : Str} (ha : Ev R B ta δ H (im K B (.str i))) (hb : Ev R B tb δ H (im K B (.str j))) : Ev R B (tOp (rNeU K) ta tb) δ H (im K B (.bool (!decide (i = j)))) :=
  ev_op ha hb fun x y H1 _ _ hx hy Q k => .inr ⟨by rw [show x = _ from hx, show y = _ from hy]; rfl, k _ H1 (Ex.refl H1) (by rw [show x = _ from hx, show y = _ from hy]; show V.bl _ = V.bl _; congr 1; by_cases z : i = j <;> simp [z])⟩
/-- truths -/
theorem et_test {b : Bool} (h : Ev R B te δ H (im K B (.bool b))) : EvT R B (tTest te) δ H b := fun σ H1 r S Q k => h σ H1 r S _ fun v H2 r2 e => ⟨b, e, k H2 r2⟩
theorem et_B {b : Bool} (h : Ev R B te δ H (im K B (.bool b))) : EvT R B (tB te) δ H b := fun σ H1 r S Q k => h σ H1 r S _ fun v H2 r2 e => ⟨b, e, k H2 r2⟩
theorem et_not {b : Bool} (h : EvT R B tt δ H b) : EvT R B (tNot tt) δ H (!b) := fun σ H1 r S Q k => h σ H1 r S _ fun H2 r2 => k H2 r2
theorem et_and {a b : Bool} (h1 : EvT R B tt δ H a) (h2 : a = true → EvT R B tu δ H b) : EvT R B (tAnd tt tu) δ H (a && b) := fun σ H1 r S Q k => h1 σ H1 r S _ fun H2 r2 => by
  cases a with
  | true => exact h2 rfl σ H2 (rk.tr r r2) (S.mono (rk.rb r2)) Q fun H3 r3 => k H3 (rk.tr r2 r3)
  | false => exact k H2 r2
theorem et_or {a b : Bool} (h1 : EvT R B tt δ H a) (h2 : a = false → EvT R B tu δ H b) : EvT R B (tOr tt tu) δ H (a || b) := fun σ H1 r S Q k => h1 σ H1 r S _ fun H2 r2 => by
  cases a with
  | true => exact k H2 r2
  | false => exact h2 rfl σ H2 (rk.tr r r2) (S.mono (rk.rb r2)) Q fun H3 r3 => k H3 (rk.tr r2 r3)
theorem EvT.is {a b : Bool} (h : EvT R B tt δ H a) (e : a = b) : EvT R B tt δ H b := e ▸ h
theorem ev_and {a b : Bool} (h1 : Ev R B ta δ H (im K B (.bool a))) (h2 : a = true → Ev R B tb δ H (im K B (.bool b))) : Ev R B (tAndV ta tb) δ H (im K B (.bool (a && b))) := fun σ H1 r S Q k => h1 σ H1 r S _ fun v H2 r2 e => ⟨a, e, by
  cases a with
  | true => exact h2 rfl σ H2 (rk.tr r r2) (S.mono (rk.rb r2)) Q fun v H3 r3 e => k v H3 (rk.tr r2 r3) e
  | false => exact k _ H2 r2 rfl⟩
theorem ev_or {a b : Bool} (h1 : Ev R B ta δ H (im K B (.bool a))) (h2 : a = false → Ev R B tb δ H (im K B (.bool b))) : Ev R B (tOrV ta tb) δ H (im K B (.bool (a || b))) := fun σ H1 r S Q k => h1 σ H1 r S _ fun v H2 r2 e => ⟨a, e, by
  cases a with
  | true => exact k _ H2 r2 rfl
  | false => exact h2 rfl σ H2 (rk.tr r r2) (S.mono (rk.rb r2)) Q fun v H3 r3 e => k v H3 (rk.tr r2 r3) e⟩
theorem ev_not {a : Bool} (h1 : Ev R B ta δ H (im K B (.bool a))) : Ev R B (tNotV ta) δ H (im K B (.bool (!a))) := fun σ H1 r S Q k => h1 σ H1 r S _ fun v H2 r2 e => ⟨a, e, k _ H2 r2 rfl⟩
theorem ev_if {b : Bool} (h : EvT R B tt δ H b) (h1 : b = true → Ev R B ta δ H p) (h2 : b = false → Ev R B tb δ H p) : Ev R B (tIf tt ta tb) δ H p := fun σ H1 r S Q k => h σ H1 r S _ fun H2 r2 => by
  cases b with
  | true => exact h1 rfl σ H2 (rk.tr r r2) (S.mono (rk.rb r2)) Q fun v H3 r3 pv => k v H3 (rk.tr r2 r3) pv
  | false => exact h2 rfl σ H2 (rk.tr r r2) (S.mono (rk.rb r2)) Q fun v H3 r3 pv => k v H3 (rk.tr r2 r3) pv
end

/-! ### statements -/
section
variable {R : Hp → Hp → Prop} {B : Bn} [rk : Rok B R] {K : PySem.W.Frag} {δ : List (Option PV)} {H H' : Hp} {ta tb tc te : TE} {p q w : PV} {tt tu : TT} {D : Ends} {σ : L2.St} {t u : TS} {i j l : Nat}
theorem st_seq {t1 t2 : TS} (z : t1 { D with nx := t2 D } σ H) : tSeq t1 t2 D σ H := z
theorem st_set [Stb B p] (S : SD B H σ δ) (h : Ev R B te δ H p) (k : ∀ σ' H2, R H H2 → SD B H2 σ' (δ.set i (some p)) → D.nx σ' H2) : tAsg te (gName i) D σ H :=
  h σ H (rk.rf H) S _ fun v H2 r2 pv => k _ H2 r2 ((S.mono (rk.rb r2)).set pv)
theorem st_setx {α : Type} {C : α → Prop} {q : α → PV} [∀ a, Stb B (q a)] (S : SD B H σ δ) (h : Ev R B te δ H (exP C q)) (k : ∀ a σ' H2, C a → R H H2 → SD B H2 σ' (δ.set i (some (q a))) → D.nx σ' H2) : tAsg te (gName i) D σ H :=
  h σ H (rk.rf H) S _ fun v H2 r2 ⟨a, c, pv⟩ => k a _ H2 c r2 ((S.mono (rk.rb r2)).set pv)
theorem st_if {b : Bool} (S : SD B H σ δ) (h : EvT R B tt δ H b) (k1 : b = true → ∀ H2, R H H2 → SD B H2 σ δ → t D σ H2) (k2 : b = false → ∀ H2, R H H2 → SD B H2 σ δ → u D σ H2) : tIfS tt t u D σ H :=
  h σ H (rk.rf H) S _ fun H2 r2 => by
    cases b with
    | true => exact k1 rfl H2 r2 (S.mono (rk.rb r2))
    | false => exact k2 rfl H2 r2 (S.mono (rk.rb r2))
theorem st_ret (S : SD B H σ δ) (h : Ev R B te δ H p) (k : ∀ v H2, R H H2 → p v H2 → D.rt v H2) : tRet te D σ H := h σ H (rk.rf H) S _ k
theorem st_expr (S : SD B H σ δ) (h : Ev R B te δ H p) (k : ∀ H2, R H H2 → SD B H2 σ δ → D.nx σ H2) : tDrop te D σ H := h σ H (rk.rf H) S _ fun v H2 r2 _ => k H2 r2 (S.mono (rk.rb r2))
theorem st_par {ta : TA} {p q : PV} [Stb B p] [Stb B q] (S : SD B H σ δ) (h : EvA R B ta δ H [p, q]) (k : ∀ σ' H2, R H H2 → SD B H2 σ' ((δ.set i (some p)).set j (some q)) → D.nx σ' H2) : tPar i j ta D σ H :=
  h σ H (rk.rf H) S _ fun vs H2 r2 ⟨v, r, e, pv, v2, r', e', qv, e''⟩ => ⟨v, v2, by subst e e'; cases (show r' = [] from e''); rfl, k _ H2 r2 (((S.mono (rk.rb r2)).set pv).set qv)⟩
theorem st_par3 {ta : TA} {p q w : PV} [Stb B p] [Stb B q] [Stb B w] (S : SD B H σ δ) (h : EvA R B ta δ H [p, q, w]) (k : ∀ σ' H2, R H H2 → SD B H2 σ' (((δ.set i (some p)).set j (some q)).set l (some w)) → D.nx σ' H2) : tPar3 i j l ta D σ H :=
  h σ H (rk.rf H) S _ fun vs H2 r2 ⟨v, r, e, pv, v2, r', e', qv, v3, r'', e'', wv, e3⟩ => ⟨v, v2, v3, by subst e e' e''; cases (show r'' = [] from e3); rfl, k _ H2 r2 ((((S.mono (rk.rb r2)).set pv).set qv).set wv)⟩
/-- a, b = a pair -/
theorem st_unpack2 {d e : PyData} (S : SD B H σ δ) (h : Ev R B te δ H (im K B (.tuple [d, e]))) (k : ∀ σ' H2, R H H2 → SD B H2 σ' ((δ.set i (some (im K B d))).set j (some (im K B e))) → D.nx σ' H2) :
    tAsg te (gTup K 2 (gCons (gName i) (gCons (gName j) gNil))) D σ H :=
  h σ H (rk.rf H) S _ fun v H2 r2 ⟨a, vs, ev, s, v1, r1, e1, h1, v2, r2', e2, h2, e3⟩ => by
    subst ev e1 e2; cases (show r2' = [] from e3)
    exact ⟨a, _, rfl, s, rfl, v1, _, rfl, v2, _, rfl, rfl, k _ H2 r2 (((S.mono (rk.rb r2)).set h1).set h2)⟩
end
end EL

set_option Elab.async false
set_option linter.all false
set_option maxRecDepth 100000
set_option maxHeartbeats 4000000
set_option autoImplicit false
namespace EL
open PySem PySem.Spec PyProof.Rows L2
abbrev FnP (K : PySem.W.Frag) (x : Str) (st : Stmt) (f : Addr) (fd : FuncData) : Prop := FunD K x x (defArgs st) (defBody st) (defScope st) [] [] f fd
/-- a def that only reads: the answer is the data res a -/
def pureSp {α : Type} (K : PySem.W.Frag) (args : α → List PyData) (pre : α → Prop) (res : α → PyData) : Sp := fun vs H Q _ =>
  ∃ (B : Bn) (a : α), BOk B H ∧ imAll K B (args a) vs H ∧ pre a ∧ ∀ v H', Ex H H' → im K B (res a) v H' → Q v H'
theorem pureSp.len {α : Type} {K : PySem.W.Frag} {args : α → List PyData} {pre : α → Prop} {res : α → PyData} {n : Nat} (h : ∀ a, (args a).length = n) {vs : List V} {H : Hp} {Q : VK} {E : XK} (q : pureSp K args pre res vs H Q E) : vs.length = n := by
  obtain ⟨B, a, _, h1, _⟩ := q
  rw [imAll_len h1]; exact h a
theorem SD.start {K : PySem.W.Frag} {B : Bn} {H : Hp} {N : List Str} {ds : List PyData} {vs : List V} (o : BOk B H) (h : imAll K B ds vs H) :
    SD B H (start N vs) (ds.map (fun d => some (im K B d)) ++ List.replicate (N.length - ds.length) none) := by
  have hl := imAll_len h
  refine ⟨o, ?_, fun i p e => ?_⟩
  · unfold L2.start
    rw [List.length_append, List.length_append, List.length_map, List.length_map, List.length_replicate, List.length_replicate, hl]
  · by_cases hi : i < ds.length
    · rw [List.getElem?_append_left (by rw [List.length_map]; exact hi), List.getElem?_map, List.getElem?_eq_getElem hi] at e
      have e2 : im K B ds[i] = p := by simpa using e
      obtain ⟨v, h1, h2⟩ := imAll_get h (List.getElem?_eq_getElem hi)
      subst e2
      refine ⟨inferInstance, v, ?_, h2⟩
      unfold L2.start
      rw [List.getElem?_append_left (by rw [List.length_map, hl]; exact hi), List.getElem?_map, h1]
      rfl
    · rw [List.getElem?_append_right (by rw [List.length_map]; omega), List.getElem?_replicate] at e
      split at e <;> simp at e
section
variable {R : Hp → Hp → Prop} {B : Bn} [rk : Rok B R] {K : PySem.W.Frag} {δ : List (Option PV)} {H H' : Hp}
theorem ev_call {α : Type} {args : α → List PyData} {pre : α → Prop} {res : α → PyData} {E : XK} {ta : TA} (a : α) (h : EvA R B ta δ H ((args a).map (im K B))) (hp : pre a) :
    Ev R B (tCall (pureSp K args pre res) [] E ta) δ H (im K B (res a)) := fun σ H1 r S Q k =>
  h σ H1 r S _ fun vs H2 r2 pr => by
    show pureSp K args pre res (vs ++ []) H2 Q E
    rw [List.append_nil]
    exact ⟨B, a, S.ok.mono (rk.rb r2), imAll_of_pAll pr, hp, fun v H3 e3 hv => k v H3 (rk.tr r2 (rk.ex e3)) hv⟩
end
/-! ### words -/
abbrev tI (ns : List Int) : PyData := .tuple (ns.map .int)
abbrev wd (b r : List Int) : PyData := .tuple [tI b, tI r]
def letterAt (b r : List Int) (k : Int) : Int := if k < b.length then b.getD k.toNat 0 else r.getD ((k - b.length) % r.length).toNat 0
abbrev spLetterAt (K : PySem.W.Frag) : Sp := pureSp (α := List Int × List Int × Int) K (fun a => [wd a.1 a.2.1, .int a.2.2]) (fun a => 0 ≤ a.2.2 ∧ a.2.1 ≠ []) (fun a => .int (letterAt a.1 a.2.1 a.2.2))
theorem atI_ints {ns : List Int} {i : Int} (h0 : 0 ≤ i) (h1 : i < ns.length) : atI (ns.map PyData.int) i = some (.int (ns.getD i.toNat 0)) := by
  have e : i = ((i.toNat : Nat) : Int) := by omega
  rw [e]
  refine atI_nat ?_
  have hl : i.toNat < ns.length := by omega
  rw [List.getElem?_map, List.getElem?_eq_getElem hl, Int.toNat_natCast]
  show some (PyData.int ns[i.toNat]) = _
  rw [List.getD_eq_getElem?_getD, List.getElem?_eq_getElem hl]
  rfl
end EL

set_option Elab.async false
set_option linter.all false
set_option maxRecDepth 100000
set_option maxHeartbeats 4000000
set_option autoImplicit false
namespace EL
open PySem PySem.Spec PyProof.Rows L2
/-! ### data without lists -/
mutual
def plain : PyData → Bool
  | .none => true
  | .bool _ => true
  | .int _ => true
  | .str _ => true
  | .tuple ds => plainAll ds
  | .list _ => false
  | .dict _ => false
def plainAll : List PyData → Bool
  | [] => true
  | d :: ds => plain d && plainAll ds
end
/-- tuples stay -/
structure TK (H H' : Hp) : Prop where
  tup : ∀ a xs, H a = some (.tup xs) → H' a = some (.tup xs)
  frz : ∀ a o u, H a = some (.frz o u) → H' a = some (.frz o u)
theorem RB.tk {B : Bn} {H H' : Hp} (r : RB B H H') : TK H H' := ⟨r.tup, r.frz⟩
theorem TK.sqT {K : PySem.W.Frag} {H H' : Hp} {a : Addr} {xs : List V} (r : TK H H') (h : SqT K H a xs) : SqT K H' a xs := by
  rcases h with (h | ⟨o, h⟩) | h
  · exact .inl (.inl (r.tup _ _ h))
  · exact .inl (.inr ⟨o, r.frz _ _ _ h⟩)
  · exact .inr h
theorem TK.upd {H : Hp} {a : Addr} {xs : List V} {o : HO} (h : H a = some (.lst xs)) : TK H (upd H a o) :=
  ⟨fun b ys e => by rw [upd_ne (ne_of e h (by intro z; cases z))]; exact e, fun b ob u e => by rw [upd_ne (ne_of e h (by intro z; cases z))]; exact e⟩
section
variable {K : PySem.W.Frag} {B B' : Bn} {H H' : Hp}
mutual
theorem im_tk (r : TK H H') : ∀ (d : PyData) (v : V), plain d = true → im K B d v H → im K B' d v H'
  | .none, _, _, h => h
  | .bool _, _, _, h => h
  | .int _, _, _, h => h
  | .str _, _, _, h => h
  | .tuple ds, _, hp, ⟨a, vs, e, s, q⟩ => ⟨a, vs, e, r.sqT s, imAll_tk r ds vs hp q⟩
  | .list ds, _, hp, _ => by cases hp
  | .dict _, _, _, h => h.elim
theorem imAll_tk (r : TK H H') : ∀ (ds : List PyData) (vs : List V), plainAll ds = true → imAll K B ds vs H → imAll K B' ds vs H'
  | [], _, _, h => h
  | d :: ds, _, hp, ⟨v, w, e, h1, h2⟩ => ⟨v, w, e, im_tk r d v (Bool.and_eq_true_iff.mp hp).1 h1, imAll_tk r ds w (Bool.and_eq_true_iff.mp hp).2 h2⟩
end
theorem plainAll_append : ∀ (ds es : List PyData), plainAll (ds ++ es) = (plainAll ds && plainAll es)
  | [], _ => rfl
  | d :: ds, es => by
    show (plain d && plainAll (ds ++ es)) = ((plain d && plainAll ds) && plainAll es)
    rw [plainAll_append, Bool.and_assoc]
theorem plainAll_ints : ∀ ns : List Int, plainAll (ns.map .int) = true
  | [] => rfl
  | _ :: ns => plainAll_ints ns
theorem plain_tI (ns : List Int) : plain (tI ns) = true := plainAll_ints ns
theorem plain_wd (b r : List Int) : plain (wd b r) = true := by
  show (plain (tI b) && (plain (tI r) && true)) = true
  rw [plain_tI, plain_tI]; rfl
theorem plainAll_iff : ∀ {ds : List PyData}, plainAll ds = true ↔ ∀ d ∈ ds, plain d = true
  | [] => by simp [plainAll]
  | d :: ds => by
    show (plain d && plainAll ds) = true ↔ _
    rw [Bool.and_eq_true_iff, plainAll_iff (ds := ds)]
    simp
end
/-- code that may make new objects and write to them -/
class Rmk (R : Hp → Hp → Prop) : Prop where
  new : ∀ {H H' p o}, R H H' → H p = none → R H (upd H' p o)
instance : Rmk Ex := ⟨fun r h => r.mut h⟩
instance {B : Bn} : Rmk (RB B) := ⟨fun {H H' p o} r h => ⟨fun a u n e => by rw [upd_ne (ne_of_none e h)]; exact r.keep a u n e, fun a u e => by rw [upd_ne (ne_of_none e h)]; exact r.tup a u e,
  fun a ob u e => by rw [upd_ne (ne_of_none e h)]; exact r.frz a ob u e, fun a b n => by
    by_cases q : a = p
    · subst q; exact absurd h n
    · rw [upd_ne q]; exact r.ban a b n⟩⟩

/-! ### slices -/
def cut {α : Type} (xs : List α) (lo hi : Option Int) : List α := (xs.drop (HT.sIx xs.length 0 lo)).take (HT.sIx xs.length xs.length hi - HT.sIx xs.length 0 lo)
theorem cutV_im {K : PySem.W.Frag} {B : Bn} {H : Hp} {ds : List PyData} {vs : List V} {lo hi : Option Int} (h : imAll K B ds vs H) : imAll K B (cut ds lo hi) (cutV vs lo hi) H := by
  unfold cut cutV
  rw [imAll_len h]
  exact imAll_take _ (imAll_drop _ h)
section
variable {R : Hp → Hp → Prop} {B : Bn} [rk : Rok B R] {K : PySem.W.Frag} {δ : List (Option PV)} {H : Hp} {te : TE} {tl th : TO} {lo hi : Option Int}
theorem eo_none : EvO R B tNoPart δ H none := fun σ H1 r S Q k => k H1 (rk.rf H1)
theorem eo_some {i : Int} (h : Ev R B te δ H (im K B (.int i))) : EvO R B (tPart te) δ H (some i) := fun σ H1 r S Q k => h σ H1 r S _ fun v H2 r2 e => ⟨i, e, k H2 r2⟩
theorem ev_slL {ds : List PyData} (h : Ev R B te δ H (im K B (.list ds))) (h1 : EvO R B tl δ H lo) (h2 : EvO R B th δ H hi) : Ev R B (tSl (rSlU K) te tl th) δ H (im K B (.list (cut ds lo hi))) := fun σ H1 r1 S Q k =>
  h σ H1 r1 S _ fun x Ha ra px => h1 σ Ha (rk.tr r1 ra) (S.mono (rk.rb ra)) _ fun Hb rb => h2 σ Hb (rk.tr (rk.tr r1 ra) rb) (S.mono (rk.rb (rk.tr ra rb))) _ fun Hc rc => by
    obtain ⟨a, vs, e, nb, s, q⟩ := im_st (rk.rb (rk.tr rb rc)) _ _ px
    exact .inl ⟨a, vs, e, s, fun p hp => k _ _ (rk.tr (rk.tr (rk.tr ra rb) rc) (rk.ex (Ex.new hp))) ⟨p, _, rfl, not_ban (S.ok.mono (rk.rb (rk.tr (rk.tr ra rb) rc))) hp, sqL_of upd_same, imAll_st (RB.of_ex (Ex.new hp)) _ _ (cutV_im q)⟩⟩
theorem ev_slT {ds : List PyData} (h : Ev R B te δ H (im K B (.tuple ds))) (h1 : EvO R B tl δ H lo) (h2 : EvO R B th δ H hi) : Ev R B (tSl (rSlU K) te tl th) δ H (im K B (.tuple (cut ds lo hi))) := fun σ H1 r1 S Q k =>
  h σ H1 r1 S _ fun x Ha ra px => h1 σ Ha (rk.tr r1 ra) (S.mono (rk.rb ra)) _ fun Hb rb => h2 σ Hb (rk.tr (rk.tr r1 ra) rb) (S.mono (rk.rb (rk.tr ra rb))) _ fun Hc rc => by
    obtain ⟨a, vs, e, s, q⟩ := im_st (rk.rb (rk.tr rb rc)) _ _ px
    refine .inr ⟨a, vs, e, s, fun z => ?_, fun _ p hp => k _ _ (rk.tr (rk.tr (rk.tr ra rb) rc) (rk.ex (Ex.new hp))) ⟨p, _, rfl, sqT_of upd_same, imAll_st (RB.of_ex (Ex.new hp)) _ _ (cutV_im q)⟩⟩
    refine k _ Hc (rk.tr (rk.tr ra rb) rc) ⟨a, vs, rfl, s, ?_⟩
    have := cutV_im (lo := lo) (hi := hi) q
    unfold cutV at this
    rw [z.1, z.2, List.drop_zero, Nat.sub_zero, List.take_length] at this
    exact this
end
theorem cut_upto {α : Type} {xs : List α} {n : Nat} : cut xs none (some (n : Int)) = xs.take n := by
  unfold cut
  rw [HT.sIx_none, HT.sIx_nat, List.drop_zero, Nat.sub_zero]
  rcases Nat.le_total n xs.length with h | h
  · rw [Nat.min_eq_left h]
  · rw [Nat.min_eq_right h, List.take_length, List.take_of_length_le h]
theorem cut_from {α : Type} {xs : List α} {n : Nat} : cut xs (some (n : Int)) none = xs.drop n := by
  unfold cut
  rw [HT.sIx_none, HT.sIx_nat]
  rcases Nat.le_total n xs.length with h | h
  · rw [Nat.min_eq_left h, List.take_of_length_le (by rw [List.length_drop]; omega)]
  · rw [Nat.min_eq_right h, Nat.sub_self, List.take_zero, List.drop_of_length_le h]
theorem RB.toEx {H H' : Hp} (r : RB (fun _ => False) H H') : Ex H H' := fun a o h => r.keep a o (fun z => z) h
/-! ### what is walked -/
section
variable (R : Hp → Hp → Prop) (B : Bn)
/-- n turns, at each the i-th is a Y i -/
def Src (wi : TI) (δ : List (Option PV)) (H : Hp) (n : Nat) (Y : Nat → PV) : Prop := ∀ σ H1, R H H1 → SD B H1 σ δ → ∀ Q : It → Hp → Prop,
  (∀ (J : It) (G : Hp → Prop) (H2 : Hp), R H1 H2 → Walk J n G (fun i Ha x Hb => Ex Ha Hb ∧ Y i x Hb) → (∀ H3, RB B H2 H3 → G H3) → Q J H2) → wi σ H1 Q
end
section
variable {R : Hp → Hp → Prop} {B : Bn} [rk : Rok B R] {K : PySem.W.Frag} {δ : List (Option PV)} {H : Hp} {ta tb : TE}
theorem getD_im {ds : List PyData} {vs : List V} {i : Nat} {v : V} (h : imAll K B ds vs H) (e : vs[i]? = some v) : im K B (ds.getD i .none) v H := by
  obtain ⟨d, e1, e2⟩ := imAll_getV h e
  rw [List.getD_eq_getElem?_getD, e1]
  exact e2
theorem src_range1 {n : Int} (h : Ev R B ta δ H (im K B (.int n))) (h1 : -(2 ^ 62) ≤ n) (h2 : n < 2 ^ 62) : Src R B (iRng1 (tCons ta tNil)) δ H n.toNat (fun i => im K B (.int i)) := fun σ H1 r S Q k =>
  h σ H1 r S _ fun v H2 r2 e => ⟨n, by rw [show v = _ from e], h1, h2, k _ (fun _ => True) H2 r2 (walk_range.mono (fun _ z => z) fun i Ha x Hb _ _ y => ⟨by rw [y.1]; exact Ex.refl _, by rw [y.2]; show V.int (0 + (i : Int)) = V.int _; rw [Int.zero_add]⟩) fun _ _ => trivial⟩
theorem src_range2 {a b : Int} (ha : Ev R B ta δ H (im K B (.int a))) (hb : Ev R B tb δ H (im K B (.int b))) (hc : -(2 ^ 62) ≤ a ∧ a < 2 ^ 62 ∧ -(2 ^ 62) ≤ b ∧ b < 2 ^ 62) : Src R B (iRng2 (tCons ta (tCons tb tNil))) δ H (b - a).toNat (fun i => im K B (.int (a + i))) := fun σ H1 r S Q k =>
  ha σ H1 r S _ fun v H2 r2 e => hb σ H2 (rk.tr r r2) (S.mono (rk.rb r2)) _ fun u H3 r3 e' => ⟨a, b, by rw [show v = _ from e, show u = _ from e'], hc, k _ (fun _ => True) H3 (rk.tr r2 r3) (walk_range.mono (fun _ z => z) fun i Ha x Hb _ _ y => ⟨by rw [y.1]; exact Ex.refl _, by rw [y.2]; rfl⟩) fun _ _ => trivial⟩
theorem src_tup {ds : List PyData} (h : Ev R B ta δ H (im K B (.tuple ds))) : Src R B (iSeqU K ta) δ H ds.length (fun i => im K B (ds.getD i .none)) := fun σ H1 r S Q k => .inr <|
  h σ H1 r S _ fun v H2 r2 ⟨a, vs, e, s, hv⟩ => ⟨a, e, ⟨vs, s⟩, by
    refine k _ (fun Hc => SqT K Hc a vs ∧ imAll K B ds vs Hc) H2 r2 ?_ fun H3 rb => ⟨rb.sqT s, imAll_st rb _ _ hv⟩
    rw [← imAll_len hv]
    exact walk_tup.mono (fun _ z => z.1) fun i Ha x Hb _ g y => ⟨by rw [y.1]; exact Ex.refl _, by rw [y.1]; exact getD_im g.2 y.2⟩⟩
theorem src_lst {ds : List PyData} (h : Ev R B ta δ H (im K B (.list ds))) : Src R B (iList K ta) δ H ds.length (fun i => im K B (ds.getD i .none)) := fun σ H1 r S Q k =>
  h σ H1 r S _ fun v H2 r2 ⟨a, vs, e, nb, s, hv⟩ => ⟨a, e, ⟨vs, s⟩, by
    refine k _ (fun Hc => SqL K Hc a vs ∧ imAll K B ds vs Hc) H2 r2 ?_ fun H3 rb => ⟨rb.sqL nb s, imAll_st rb _ _ hv⟩
    rw [← imAll_len hv]
    exact walk_list.mono (fun _ z => z.1) fun i Ha x Hb _ g y => ⟨by rw [y.1]; exact Ex.refl _, by rw [y.1]; exact getD_im g.2 y.2⟩⟩
theorem src_lstU {ds : List PyData} (h : Ev R B ta δ H (im K B (.list ds))) : Src R B (iSeqU K ta) δ H ds.length (fun i => im K B (ds.getD i .none)) := fun σ H1 r S Q k => .inl (src_lst h σ H1 r S Q k)
/-- a for loop -/
theorem st_for {wi : TI} {g : TG} {tb : TS} {n : Nat} {Y : Nat → PV} {D : Ends} {σ : L2.St} (S : SD B H σ δ) (hs : Src R B wi δ H n Y)
    (k : ∀ H0, R H H0 → SD B H0 σ δ → ∃ I : Nat → L2.St → Hp → Prop, I 0 σ H0 ∧ (∀ i s Hc, I i s Hc → RB B H0 Hc) ∧
      (∀ i x s Ha Hb, i < n → I i s Ha → Ex Ha Hb → Y i x Hb → g x s Hb fun σ2 H2 => tb { D with nx := I (i + 1), ct := I (i + 1), bk := D.nx } σ2 H2) ∧ ∀ s Hc, I n s Hc → D.nx s Hc) : tFor wi g tb D σ H :=
  hs σ H (rk.rf H) S _ fun J G H2 r2 w hG => by
    obtain ⟨I, i0, ir, it, id⟩ := k H2 r2 (S.mono (rk.rb r2))
    exact for_it w I i0 (fun i s Hc _ p => hG Hc (ir i s Hc p)) (fun i x s Ha Hb hi p y => it i x s Ha Hb hi p y.1 y.2) id
end
/-! ### list comprehensions, of one name -/
section
variable {R : Hp → Hp → Prop} {B : Bn} [rk : Rok B R] [rm : Rmk R] {K : PySem.W.Frag} {δ : List (Option PV)} {H : Hp}
/-- a list that was not there in H -/
def newL (K : PySem.W.Frag) (B : Bn) (H : Hp) (ds : List PyData) : PV := fun v Hc => ∃ a vs, v = .ref a ∧ H a = none ∧ ¬ B a ∧ Hc a = some (.lst vs) ∧ imAll K B ds vs Hc
instance {H : Hp} {ds : List PyData} : Stb B (newL K B H ds) := ⟨fun r ⟨a, vs, e, n, nb, h, q⟩ => ⟨a, vs, e, n, nb, r.keep _ _ nb h, imAll_st r _ _ q⟩⟩
theorem newL.im {H0 Hc : Hp} {ds : List PyData} {v : V} (h : newL K B H0 ds v Hc) : im K B (.list ds) v Hc := by
  obtain ⟨a, vs, e, n, nb, h, q⟩ := h
  exact ⟨a, vs, e, nb, sqL_of h, q⟩
theorem RB.fresh {H H' : Hp} {a : Addr} (r : RB B H H') (n : H' a = none) : H a = none := by
  cases e : H a with
  | none => rfl
  | some o =>
    rcases Classical.em (B a) with b | b
    · exact absurd n (r.ban a b (by rw [e]; exact fun z => nomatch z))
    · rw [r.keep a o b e] at n; cases n
theorem ev_lstN {ta : TA} {ds : List PyData} (h : EvA R B ta δ H (ds.map (EL.im K B))) (hl : ds.length ≤ sizeLine) : Ev R B (tLst ta) δ H (newL K B H ds) := fun σ H1 r1 S Q k =>
  h σ H1 r1 S _ fun vs H2 r2 pr => by
    have hv := imAll_of_pAll pr
    refine ⟨by rw [imAll_len hv]; exact hl, fun a ha => k _ _ (rk.tr r2 (rk.ex (Ex.new ha))) ⟨a, vs, rfl, RB.fresh (rk.rb (rk.tr r1 r2)) ha, not_ban (S.ok.mono (rk.rb r2)) ha, upd_same, imAll_st (RB.of_ex (Ex.new ha)) _ _ hv⟩⟩
theorem ev_lstV {ta : TA} {ps : List PV} (h : EvA R B ta δ H ps) (hl : ps.length ≤ sizeLine) (hst : ∀ vs Ha Hb, Ex Ha Hb → pAll ps vs Ha → pAll ps vs Hb) :
    Ev R B (tLst ta) δ H (fun v Hc => ∃ a vs, v = .ref a ∧ H a = none ∧ ¬ B a ∧ Hc a = some (.lst vs) ∧ pAll ps vs Hc) := fun σ H1 r1 S Q k =>
  h σ H1 r1 S _ fun vs H2 r2 pr => by
    have len : ∀ (ps : List PV) (vs : List V), pAll ps vs H2 → vs.length = ps.length := by
      intro ps
      induction ps with
      | nil => intro vs h; rw [show vs = [] from h]; rfl
      | cons p ps ih => intro vs ⟨v, r, e, _, h⟩; rw [e, List.length_cons, List.length_cons, ih r h]
    exact ⟨by rw [len _ _ pr]; exact hl, fun a ha => k _ _ (rk.tr r2 (rk.ex (Ex.new ha))) ⟨a, vs, rfl, RB.fresh (rk.rb (rk.tr r1 r2)) ha, not_ban (S.ok.mono (rk.rb r2)) ha, upd_same, hst vs _ _ (Ex.new ha) pr⟩⟩
theorem ev_lcN {wi : TI} {tt : TT} {te : TE} {v n : Nat} {Y : Nat → PV} [∀ i, Stb B (Y i)] (Acc : Nat → List PyData → Prop) (hs : Src R B wi δ H n Y) (hn : n ≤ sizeLine) (h0 : Acc 0 [])
    (turn : ∀ i ds Hc, i < n → Acc i ds → R H Hc → ∃ C : Bool → Prop, EvTx R B tt ((δ.set v none).set v (some (Y i))) Hc C ∧ (C false → Acc (i + 1) ds) ∧ (C true → ∀ Hd, R Hc Hd → ∃ P : PyData → Prop, Ev R B te ((δ.set v none).set v (some (Y i))) Hd (exP P (im K B)) ∧ ∀ d, P d → plain d = true ∧ Acc (i + 1) (ds ++ [d]))) :
    Ev R B (tLc wi (gName v) tt te [v]) δ H (exP (Acc n) fun ds => newL K B H ds) := fun σ H1 r1 S Q k =>
  hs σ H1 r1 S _ fun J G H2 r2 w hG D hD => by
    have nB : ¬ B D := not_ban (S.ok.mono (rk.rb r2)) hD
    have hD1 : Ex H2 (upd H2 D (.lst [])) := Ex.new hD
    refine lc_it w (fun i Hc => R H2 Hc ∧ ∃ ds vs, Hc D = some (.lst vs) ∧ imAll K B ds vs Hc ∧ plainAll ds = true ∧ ds.length ≤ i ∧ Acc i ds) ⟨rk.ex hD1, [], [], upd_same, rfl, rfl, Nat.le_refl _, h0⟩ (fun i Hc _ p => hG Hc (rk.rb p.1)) (fun i x Ha Hb hi p y => ?_) fun Hc p => ?_
    · obtain ⟨ra, ds, vs, eD, hv, hp, hl, acc⟩ := p
      obtain ⟨ye, yy⟩ := y
      have rb' : R H2 Hb := rk.tr ra (rk.ex ye)
      have Sb : SD B Hb (σ.set v none) (δ.set v none) := ((S.mono (rk.rb r2)).mono (rk.rb rb')).unset
      have S2 : SD B Hb ((σ.set v none).set v (some x)) ((δ.set v none).set v (some (Y i))) := Sb.set yy
      refine ⟨by show (((σ.set v none).set v (some x)).set v none) = σ.set v none; rw [List.set_set, List.set_set], ?_⟩
      obtain ⟨C, ht, hf, hT⟩ := turn i ds Hb hi acc (rk.tr r1 (rk.tr r2 rb'))
      refine ht _ Hb (rk.rf Hb) S2 _ fun b H3 cb r3 => ?_
      cases b with
      | false => exact ⟨rk.tr rb' r3, ds, vs, (rk.rb r3).keep _ _ nB (ye _ _ eD), imAll_st (rk.rb r3) _ _ (imAll_st (RB.of_ex ye) _ _ hv), hp, Nat.le_succ_of_le hl, hf cb⟩
      | true =>
        obtain ⟨P, he, hP⟩ := hT cb H3 r3
        refine he _ H3 (rk.rf H3) (S2.mono (rk.rb r3)) _ fun z H4 r4 ⟨d, pd, hz⟩ => ?_
        obtain ⟨pl, acc'⟩ := hP d pd
        have r34 : R Hb H4 := rk.tr r3 r4
        have e4 : H4 D = some (.lst vs) := (rk.rb r34).keep _ _ nB (ye _ _ eD)
        have hv4 : imAll K B ds vs H4 := imAll_st (rk.rb r34) _ _ (imAll_st (RB.of_ex ye) _ _ hv)
        refine ⟨vs, e4, ?_, rm.new (rk.tr rb' r34) hD, ds ++ [d], vs ++ [z], upd_same, ?_, ?_, ?_, acc'⟩
        · rw [imAll_len hv4]; omega
        · exact imAll_append (imAll_tk (TK.upd e4) _ _ hp hv4) ⟨z, [], rfl, im_tk (TK.upd e4) _ _ pl hz, rfl⟩
        · rw [plainAll_append, hp]; show (true && (plain d && true)) = true; rw [pl]; rfl
        · rw [List.length_append]; show ds.length + 1 ≤ i + 1; omega
    · obtain ⟨ra, ds, vs, eD, hv, hp, hl, acc⟩ := p
      exact k _ Hc (rk.tr r2 ra) ⟨ds, acc, D, vs, rfl, RB.fresh (rk.rb (rk.tr r1 r2)) hD, nB, eD, hv⟩
theorem ev_lc {wi : TI} {tt : TT} {te : TE} {v n : Nat} {Y : Nat → PV} [∀ i, Stb B (Y i)] (Acc : Nat → List PyData → Prop) (hs : Src R B wi δ H n Y) (hn : n ≤ sizeLine) (h0 : Acc 0 [])
    (turn : ∀ i ds Hc, i < n → Acc i ds → R H Hc → ∃ C : Bool → Prop, EvTx R B tt ((δ.set v none).set v (some (Y i))) Hc C ∧ (C false → Acc (i + 1) ds) ∧ (C true → ∀ Hd, R Hc Hd → ∃ P : PyData → Prop, Ev R B te ((δ.set v none).set v (some (Y i))) Hd (exP P (im K B)) ∧ ∀ d, P d → plain d = true ∧ Acc (i + 1) (ds ++ [d]))) :
    Ev R B (tLc wi (gName v) tt te [v]) δ H (exP (Acc n) fun ds => im K B (.list ds)) := (ev_lcN Acc hs hn h0 turn).conv fun v H1 _ ⟨ds, a, q⟩ => ⟨ds, a, q.im⟩
theorem etx_yes : EvTx R B tYes δ H (· = true) := fun σ H1 r S Q k => k true H1 rfl (rk.rf H1)
theorem etx_of {tt : TT} {b : Bool} (h : EvT R B tt δ H b) : EvTx R B tt δ H (· = b) := fun σ H1 r S Q k => h σ H1 r S Q fun H2 r2 => k b H2 rfl r2
theorem ev_one {te : TE} {d : PyData} (h : Ev R B te δ H (im K B d)) : Ev R B te δ H (exP (· = d) (im K B)) := h.conv fun v H1 _ pv => ⟨d, rfl, pv⟩
end
end EL

set_option Elab.async false
set_option linter.all false
set_option maxRecDepth 100000
set_option maxHeartbeats 4000000
set_option autoImplicit false
namespace EL
open PySem PySem.Spec PyProof.Rows L2
/-! ### the law's hand -/
abbrev big61 : Int := 2305843009213693951
structure HandOk (h l : Addr) (H : Hp) : Prop where
  ne : h ≠ l
  top : ∃ seed : Int, H h = some (.lst [.ref l, .int seed]) ∧ 0 ≤ seed ∧ seed < big61
  cells : ∃ cs : List Int, H l = some (.lst (cs.map .int)) ∧ (∀ c ∈ cs, 0 ≤ c) ∧ cs.length ≤ 63
def hB (h l : Addr) : Bn := fun a => a = h ∨ a = l
structure Rh (h l : Addr) (H H' : Hp) : Prop where
  rb : RB (hB h l) H H'
  ok : HandOk h l H → HandOk h l H'
class Has (B : Bn) (h l : Addr) : Prop where
  h1 : B h
  h2 : B l
instance {h l : Addr} : Has (hB h l) h l := ⟨.inl rfl, .inr rfl⟩
theorem HandOk.ex {h l : Addr} {H H' : Hp} (e : Ex H H') (o : HandOk h l H) : HandOk h l H' := by
  obtain ⟨n, ⟨s, e1, b1⟩, ⟨cs, e2, b2⟩⟩ := o
  exact ⟨n, ⟨s, e _ _ e1, b1⟩, ⟨cs, e _ _ e2, b2⟩⟩
instance {B : Bn} {h l : Addr} [hs : Has B h l] : Rok B (Rh h l) where
  rf := fun H => ⟨RB.refl H, id⟩
  tr := fun a b => ⟨a.rb.trans b.rb, fun o => b.ok (a.ok o)⟩
  ex := fun e => ⟨RB.of_ex e, fun o => o.ex e⟩
  rb := fun r => r.rb.sub fun a z => by
    rcases z with rfl | rfl
    · exact hs.h1
    · exact hs.h2
theorem HandOk.upd {h l p : Addr} {H : Hp} {o : HO} (k : HandOk h l H) (n1 : h ≠ p) (n2 : l ≠ p) : HandOk h l (upd H p o) := by
  obtain ⟨n, ⟨s, e1, b1⟩, ⟨cs, e2, b2⟩⟩ := k
  exact ⟨n, ⟨s, by rw [upd_ne n1]; exact e1, b1⟩, ⟨cs, by rw [upd_ne n2]; exact e2, b2⟩⟩
theorem HandOk.at1 {h l : Addr} {H : Hp} (k : HandOk h l H) : H h ≠ none := by
  obtain ⟨n, ⟨s, e1, b1⟩, _⟩ := k
  rw [e1]; exact fun z => nomatch z
theorem HandOk.at2 {h l : Addr} {H : Hp} (k : HandOk h l H) : H l ≠ none := by
  obtain ⟨n, _, ⟨cs, e2, b2⟩⟩ := k
  rw [e2]; exact fun z => nomatch z
instance {h l : Addr} : Rmk (Rh h l) := ⟨fun {H H' p o} r n => ⟨Rmk.new r.rb n, fun k => (r.ok k).upd (fun e => k.at1 (e ▸ n)) fun e => k.at2 (e ▸ n)⟩⟩
theorem HandOk.bok {h l : Addr} {H : Hp} (k : HandOk h l H) : BOk (hB h l) H := fun a z => by
  rcases z with rfl | rfl
  · exact k.at1
  · exact k.at2
/-- an int of which C is so -/
def intP (C : Int → Prop) : PV := fun v _ => ∃ i, C i ∧ v = .int i
instance {B : Bn} {C : Int → Prop} : Stb B (intP C) := ⟨fun _ h => h⟩
def spPick : Sp := fun vs H Q _ => ∃ (h l : Addr) (m : Int), vs = [.ref h, .int m] ∧ HandOk h l H ∧ 1 ≤ m ∧ m < 1073741824 ∧ ∀ d H', 0 ≤ d → d < m → Rh h l H H' → Q (.int d) H'
def spHand (K : PySem.W.Frag) : Sp := fun vs H Q _ => ∃ (a : Addr) (ns : List Int), vs = [.ref a] ∧ SqL K H a (ns.map .int) ∧ ns.length ≤ 63 ∧ ∀ h l H', Ex H H' → HandOk h l H' → H h = none → H l = none → Q (.ref h) H'
section
variable {B : Bn} {h l : Addr} [hs : Has B h l] {K : PySem.W.Frag} {δ : List (Option PV)} {H : Hp} {ta tb : TE} {E : XK}
theorem ev_pick {N : Int → Prop} (hk : HandOk h l H) (ha : Ev (Rh h l) B ta δ H (isP (.ref h))) (hb : Ev (Rh h l) B tb δ H (intP N)) (hN : ∀ m, N m → 1 ≤ m ∧ m < 1073741824) :
    Ev (Rh h l) B (tCall spPick [] E (tCons ta (tCons tb tNil))) δ H (intP fun d => ∃ m, N m ∧ 0 ≤ d ∧ d < m) := fun σ H1 r1 S Q k =>
  ha σ H1 r1 S _ fun x H2 r2 ex => hb σ H2 (Rok.tr B r1 r2) (S.mono (Rok.rb r2)) _ fun y H3 r3 ⟨m, nm, ey⟩ =>
    ⟨h, l, m, by rw [show x = _ from ex, ey]; rfl, ((r1.ok hk |> r2.ok) |> r3.ok), (hN m nm).1, (hN m nm).2, fun d H4 d0 d1 r4 => k _ H4 (Rok.tr B (Rok.tr B r2 r3) r4) ⟨d, ⟨m, nm, d0, d1⟩, rfl⟩⟩
theorem ev_pickI {m : Int} (hk : HandOk h l H) (ha : Ev (Rh h l) B ta δ H (isP (.ref h))) (hb : Ev (Rh h l) B tb δ H (im K B (.int m))) (h1 : 1 ≤ m) (h2 : m < 1073741824) :
    Ev (Rh h l) B (tCall spPick [] E (tCons ta (tCons tb tNil))) δ H (intP fun d => 0 ≤ d ∧ d < m) :=
  (ev_pick (N := (· = m)) hk ha (hb.conv fun v H1 _ e => ⟨m, rfl, e⟩) fun m' e => by subst e; exact ⟨h1, h2⟩).conv fun v H1 _ ⟨d, ⟨m', e, h0, h3⟩, ev⟩ => by subst e; exact ⟨d, ⟨h0, h3⟩, ev⟩
end
section
variable {R : Hp → Hp → Prop} {B : Bn} [rk : Rok B R] {K : PySem.W.Frag} {δ : List (Option PV)} {H : Hp} {ta tb : TE} {C D : Int → Prop}
theorem ev_addN (ha : Ev R B ta δ H (intP C)) (hb : Ev R B tb δ H (intP D)) : Ev R B (tOp (rAddU K) ta tb) δ H (intP fun k => ∃ i j, C i ∧ D j ∧ k = i + j) :=
  ev_op ha hb fun x y H1 _ _ ⟨i, c, hx⟩ ⟨j, d, hy⟩ Q k => .inl ⟨i, j, hx, hy, k _ H1 (Ex.refl H1) ⟨i + j, ⟨i, j, c, d, rfl⟩, rfl⟩⟩
theorem ev_intN {i : Int} (ha : Ev R B ta δ H (im K B (.int i))) : Ev R B ta δ H (intP (· = i)) := ha.conv fun v _ _ e => ⟨i, rfl, e⟩
theorem Ev.intm (ha : Ev R B ta δ H (intP C)) (h : ∀ i, C i → D i) : Ev R B ta δ H (intP D) := ha.conv fun v _ _ ⟨i, c, e⟩ => ⟨i, h i c, e⟩
theorem Ev.intx (ha : Ev R B ta δ H (intP C)) : Ev R B ta δ H (exP C fun i => im K B (.int i)) := ha.conv fun v _ _ ⟨i, c, e⟩ => ⟨i, c, e⟩
end
end EL

set_option Elab.async false
set_option linter.all false
set_option maxRecDepth 100000
set_option maxHeartbeats 4000000
set_option autoImplicit false
namespace EL
open PySem PySem.Spec PyProof.Rows L2
section
variable {R : Hp → Hp → Prop} {B : Bn} [rk : Rok B R] {K : PySem.W.Frag} {δ : List (Option PV)} {H : Hp} {ta tb to ti te : TE} {D : Ends} {σ : L2.St} {p : PV}
/-- an item of a list that is known at its address -/
theorem ev_ixE {a : Addr} {vs : List V} {i : Int} {v : V} (ha : Ev Ex B ta δ H (isP (.ref a))) (hb : Ev Ex B tb δ H (im K B (.int i))) (hl : H a = some (.lst vs)) (e : atI vs i = some v) : Ev Ex B (tOp (rIx K) ta tb) δ H (isP v) :=
  ev_op ha hb fun x y H1 r1 _ hx hy Q k => .inl ⟨a, vs, i, v, hx, hy, sqL_of (r1 _ _ hl), e, k v H1 (Ex.refl H1) rfl⟩
theorem Ev.lst {a : Addr} {vs : List V} {ds : List PyData} (ha : Ev Ex (fun _ => False) ta δ H (isP (.ref a))) (hl : H a = some (.lst vs)) (hv : imAll K (fun _ => False) ds vs H) : Ev Ex (fun _ => False) ta δ H (im K (fun _ => False) (.list ds)) :=
  ha.conv fun v H1 r1 e => ⟨a, vs, e, fun z => z, sqL_of (r1 _ _ hl), imAll_st (RB.of_ex r1) _ _ hv⟩
/-- a method of a list, as a statement -/
theorem st_lmeth {r : V → List V → Hp → VK → Prop} {ta : TA} {ps : List PV} {l : Addr} (S : SD B H σ δ) (ho : Ev R B to δ H (isP (.ref l))) (ha : EvA R B ta δ H ps) (ty : ∀ H1, R H H1 → ∃ xs, H1 l = some (.lst xs))
    (k : ∀ vs H2, R H H2 → SD B H2 σ δ → pAll ps vs H2 → r (.ref l) vs H2 (fun _ H3 => D.nx σ H3)) : tDrop (tBM K "list" r to ta) D σ H :=
  ho σ H (rk.rf H) S _ fun x H1 r1 e => by
    cases (show x = _ from e)
    obtain ⟨xs, e1⟩ := ty H1 r1
    exact ⟨.inl ⟨rfl, xs, sqL_of e1⟩, ha σ H1 r1 (S.mono (rk.rb r1)) _ fun vs H2 r2 pv => k vs H2 (rk.tr r1 r2) (S.mono (rk.rb (rk.tr r1 r2))) pv⟩
theorem st_setitem [Stb B p] {l : Addr} {i : Int} (S : SD B H σ δ) (he : Ev R B te δ H p) (ho : Ev R B to δ H (isP (.ref l))) (hi : Ev R B ti δ H (im K B (.int i)))
    (k : ∀ v H2, R H H2 → SD B H2 σ δ → p v H2 → ∃ xs j, H2 l = some (.lst xs) ∧ ixN xs.length i = some j ∧ D.nx σ (upd H2 l (.lst (xs.set j v)))) : tAsg te (gSub to ti rSetL) D σ H :=
  he σ H (rk.rf H) S _ fun v H1 r1 pv => ho σ H1 r1 (S.mono (rk.rb r1)) _ fun x H2 r2 e => hi σ H2 (rk.tr r1 r2) (S.mono (rk.rb (rk.tr r1 r2))) _ fun y H3 r3 e' => by
    cases (show x = _ from e); cases (show y = _ from e')
    obtain ⟨xs, j, h1, h2, h3⟩ := k v H3 (rk.tr (rk.tr r1 r2) r3) (S.mono (rk.rb (rk.tr (rk.tr r1 r2) r3))) (Stb.st (rk.rb (rk.tr r2 r3)) pv)
    exact ⟨l, xs, i, j, rfl, rfl, h1, h2, h3⟩
/-- while -/
theorem st_while {tc : TT} {tb : TS} (W : Nat → L2.St → Hp → Prop) (m0 : Nat) (h0 : W m0 σ H)
    (hs : ∀ m s Hc, W m s Hc → ∃ δ b, SD B Hc s δ ∧ EvT R B tc δ Hc b ∧ (b = true → ∀ H1, R Hc H1 → SD B H1 s δ → tb { D with nx := fun s' H' => ∃ m', m' < m ∧ W m' s' H', ct := fun s' H' => ∃ m', m' < m ∧ W m' s' H', bk := D.nx } s H1) ∧ (b = false → ∀ H1, R Hc H1 → SD B H1 s δ → D.nx s H1)) : tWhile tc tb D σ H := by
  refine ⟨W, ⟨m0, h0⟩, fun m s Hc w => ?_⟩
  obtain ⟨δ, b, S, ht, k1, k2⟩ := hs m s Hc w
  refine ht s Hc (rk.rf Hc) S _ fun H1 r1 => ?_
  cases b with
  | true => exact ⟨_, fun s' H' z => z, k1 rfl H1 r1 (S.mono (rk.rb r1))⟩
  | false => exact k2 rfl H1 r1 (S.mono (rk.rb r1))
end
section
variable {B : Bn} {K : PySem.W.Frag} {δ : List (Option PV)} {H : Hp} {ta : TE}
end
theorem canLayAll_ints : ∀ ns : List Int, PyData.canLayAll0 (ns.map .int) = true
  | [] => by rfl
  | n :: ns => by
    have := canLayAll_ints ns
    simp only [List.map_cons, PyData.canLayAll0, PyData.canLay0, this, Bool.and_self]
theorem depthAll_ints : ∀ ns : List Int, PyData.depthAll (ns.map .int) ≤ 1
  | [] => by simp [PyData.depthAll]
  | n :: ns => by
    have := depthAll_ints ns
    simp only [List.map_cons, PyData.depthAll, PyData.depth]
    omega
theorem shaped_ints (ns : List Int) : SeqAt.shaped (.list (ns.map .int)) = true := by
  unfold SeqAt.shaped
  have h1 := canLayAll_ints ns
  have h2 := depthAll_ints ns
  simp only [PyData.canLay0, h1, PyData.depth, Bool.true_and]
  exact decide_eq_true (by omega)
theorem shaped_int (i : Int) : SeqAt.shaped (.int i) = true := by
  unfold SeqAt.shaped
  simp [PyData.canLay0, PyData.depth]
theorem eqv_nil {ds : List PyData} : PyData.eqv (.list ds) (.list []) = ds.isEmpty := by
  cases ds <;> simp [PyData.eqv, PyData.eqvAll]
theorem RB.updB {B : Bn} {H0 Hc : Hp} {a : Addr} {xs : List V} {o : HO} (r : RB B H0 Hc) (b : B a) (e : Hc a = some (.lst xs)) : RB B H0 (upd Hc a o) :=
  r.trans ⟨fun c u n z => by rw [upd_ne (show c ≠ a from fun q => n (by rw [q]; exact b))]; exact z, (TK.upd e).tup, (TK.upd e).frz, fun c _ n => by
    by_cases q : c = a
    · subst q; rw [upd_same]; exact fun z => nomatch z
    · rw [upd_ne q]; exact n⟩
theorem ev_neNil {B : Bn} {K : PySem.W.Frag} {δ : List (Option PV)} {H : Hp} {ta : TE} {a : Addr} {cs : List Int} (ha : Ev Ex B ta δ H (isP (.ref a))) (hl : H a = some (.lst (cs.map .int))) :
    Ev Ex B (tOp (rNeU K) ta (tLst tNil)) δ H (im K B (.bool (!cs.isEmpty))) :=
  ev_op ha (ev_lst (K := K) (ds := []) ea_nil (Nat.zero_le _)) fun x y H1 r1 _ hx hy Q k => .inl ⟨.list (cs.map .int), .list [], by
    cases (show x = _ from hx)
    exact .lst (sqL_of (r1 _ _ hl)) (imAll_dp (K := K) (B := fun _ => False) _ _ (imAll_ints.mpr rfl)), im_dp _ _ hy, shaped_ints cs, by decide +kernel, k _ H1 (Ex.refl H1) (by show V.bl _ = V.bl _; rw [eqv_nil]; cases cs <;> rfl)⟩
end EL

set_option Elab.async false
set_option linter.all false
set_option maxRecDepth 100000
set_option maxHeartbeats 4000000
set_option autoImplicit false
namespace EL
open PySem PySem.Spec PyProof.Rows L2
/-! ### defs called where no repr is under way -/
structure FnG (P : Program) (w : World) (K : PySem.W.Frag) (mg : Str → Option Value) (bs : Heap) (CX : CXT) (k : Nat) (f : Addr) (fd : FuncData) (ps : List Str) (sp : Sp) : Prop where
  len : ∀ vs H Q E, sp vs H Q E → vs.length = ps.length
  run : ∀ (A : Around) (o : List Env) (s : Shared) (H : Hp) (ar : Args) (us : List Value) (vs : List V) (Q : VK) (E : XK),
    A.guards = some [] → Room k A → Env0 P w K mg bs A o s H → BindsTo s fd ar (ps.zip us) → Vals vs us → sp vs H Q E →
    codeAny (model P w) A (.call (.ref f) ar) (CR CX o P w H s Q E) s
theorem FnG.of {P : Program} {w : World} {K : PySem.W.Frag} {mg : Str → Option Value} {bs : Heap} {CX : CXT} {k : Nat} {f : Addr} {fd : FuncData} {ps : List Str} {sp : Sp}
    (F : FnOk P w K mg bs CX k f fd ps sp) : FnG P w K mg bs CX k f fd ps sp := ⟨F.len, fun A o s H ar us vs Q E _ => F.run A o s H ar us vs Q E⟩
section
variable {P : Program} {w : World} {K : PySem.W.Frag} {mg : Str → Option Value} {bs : Heap} {CX : CXT} {x qu : Str} {pa : Arguments} {bo : List Stmt} {sc : Scope} {dv : List V} {kw : List (Str × V)} {f : Addr} {fd : FuncData}
theorem okG {N ps : List Str} {k : Nat} {sp : Sp} (F : FunD K x qu pa bo sc dv kw f fd) (S : FnScope N ps sc)
    (hlen : ∀ vs H Q E, sp vs H Q E → vs.length = ps.length)
    (hb : ∀ (cv : Value) (A : Around) (o : List Env) (s : Shared) (H : Hp) (vs : List V) (Q : VK) (E : XK), A.guards = some [] →
      Room k (A.deeper (envOfC qu sc s.heap.objs.size f cv)) → sp vs H Q E →
      ∃ t, PSs (cxOf CX P w K mg bs N qu sc f cv A o s H E) bo t ∧ t ⟨fun _ H' => Q .non H', Q, fun _ _ => False, fun _ _ => False⟩ (start N vs) H) :
    FnG P w K mg bs CX (k + 1) f fd ps sp := by
  obtain ⟨oc, od, dV, kV, doc, pm, an, cv, ct, osl, rfl, hlk, hcd, _, _⟩ := F.ex
  refine ⟨hlen, fun A o s H ar us vs Q E gd rm en bd rv hsp => ?_⟩
  have hKin : K.In s.heap := en.mod.kin.keeps fun c z q => (en.bs c z q).1
  have hLim : s.heap.NoLimit := en.mod.nolimit.keeps fun c z q => (en.bs c z q).1
  have hkd : ∀ y ∈ ps.zip us, sc.names.lookup y.1 = some .local ∨
      (sc.names.lookup y.1 = some .cell ∧ ((cellsFrom (s.heap.objs.size + 1) sc.names []).lookup y.1).isSome = true) := by
    rintro ⟨nm, vl⟩ hy
    rcases S.par nm (List.of_mem_zip hy).1 with z | z
    · left; exact z
    · right; exact ⟨z, PySem.W.cellsFrom_some _ _ _ (.inl z)⟩
  refine codeAny_call_function rm.depth (hKin _ _ hlk) rfl S.co S.gen rfl (PySem.W.codeRec_of hKin hcd) (bd _ _ _ _ ?_)
  refine wpAny_newFunctionEnv_cells S.kind hkd fun ev hev s2 xx => ?_
  subst hev
  refine ⟨hLim.keeps xx.toInCall.keep, codeAny_func ?_⟩
  obtain ⟨t, ht, hq⟩ := hb cv A o s H vs Q E gd (rm.deeper _) hsp
  have II : Inv (cxOf CX P w K mg bs N qu sc f cv A o s H E) [] (start N vs) H s2 := inv_start S rm.hd en (hlen _ _ _ _ hsp) rv xx
  refine wpAny_mono (ht.run [] s2 (start N vs) H _ II hq) (fun fl s3 hs => ?_) fun e s3 hs => hs
  cases fl with
  | ret u => obtain ⟨v, σ', H', J, r2, z⟩ := hs; exact ⟨v, H', J.os, J.bare, J.base, J.hok, r2, z⟩
  | next => obtain ⟨σ', H', J, z⟩ := hs; exact ⟨.non, H', J.os, J.bare, J.base, J.hok, rfl, z⟩
  | brk => obtain ⟨_, _, _, z⟩ := hs; cases z
  | cont => obtain ⟨_, _, _, z⟩ := hs; cases z
end
section
variable {X : Cx} {CX : CXT} {k : Nat} {f : Addr} {fd : FuncData} {ps : List Str} {sp : Sp} {E : XK} {x : Str} {p pos : Pos} {e : Expr} {es : List Expr} {t : TA}
theorem pe_callG (F : FnG X.prog X.w X.K X.mg X.base CX k f fd ps sp) (gd : X.A.guards = some []) (rm : Room k X.A) (hg : Gl X x) (hm : X.mg x = some (.ref f)) (hk : PySem.W.keepIn X.K (.ref f) = true)
    (bd : Binds X.K fd ps []) (hx : Passes CX X E) (ha : PA X (e :: es) t) (d1 : (x == ("__debug__" : Str)) = false := by decide)
    (d2 : starEach (e :: es) X.env = (false, eval e X.env) :: starEach es X.env := by rfl) (d3 : (backTo pos (starEach es X.env)).any (·.1) = false := by rfl) :
    PE X (.Call (.Name x p) (e :: es) [] pos) (tCall sp [] E t) := by
  refine ⟨fun pins s σ H Q I h => wpAny_Call_Name_kw (ld_glob I hg hm ?_ d1)⟩
  refine PySem.W.callWith_K (h₀ := X.base) I.ok.mod.kin hk (thn (ha.run pos pins s σ H _ I h) ?_) d2 d3
  rintro us s1 ⟨vs, H1, I1, rv, q⟩
  refine ⟨I1.kIn, ?_⟩
  have q : sp (vs ++ []) H1 Q E := q
  rw [List.append_nil] at q
  have hl : (us ++ []).length = ps.length := by rw [List.append_nil, ← rv.length]; exact F.len _ _ _ _ q
  have bb := bd s1 us I1.kIn hl
  rw [List.append_nil] at bb
  refine wpAny_call (codeAny_mono (F.run X.A X.stack s1 H1 ⟨us, []⟩ us vs Q E gd rm I1.env0 bb rv q) fun r s2 hq => ?_)
  match r, hq with
  | .error er, hq => exact hx pins σ H1 s1 er s2 I1 hq
  | .ok (.ret u), hq => exact I1.after hq
/-- repr of data -/
def rReprD (K : PySem.W.Frag) : List V → Hp → VK → Prop := fun xs H Q => ∃ v d, xs = [v] ∧ Dp K H v d ∧ d.showable = true ∧ d.hasDict = false ∧ d.depth ≤ 64 ∧ d.shown.length ≤ sizeLine ∧ Q (.str d.shown) H
theorem call_reprD (gd : X.A.guards = some []) (hu : X.A.units + 66 < cLine) : CallR X (.builtin "repr") (rReprD X.K) := by
  intro pins s σ H xs us Q I r h
  obtain ⟨v, d, rfl, hd, sh, nd, dp, sz, q⟩ := h
  obtain ⟨u, rfl, ru⟩ := vals1 r
  obtain ⟨as, rd⟩ := Dp.reads I d v u hd ru
  have fin : ∀ (h' : Heap) (t : Tok) (tk : Nat), (∀ b o, s.heap.get? b = some o → h'.get? b = some o) → EP X pins σ Q (.str d.shown t) { s with heap := h', toks := tk } := fun h' t tk hk => ⟨.str d.shown, H, I.kept hk, ⟨t, rfl⟩, q⟩
  cases hd with
  | lst a b => cases ru; exact repr_of_reads' rd sh (PyData.noDict_hsm nd) gd (by omega) (fun _ _ z => z) fin sz
  | tup a b => cases ru; exact repr_of_reads' rd sh (PyData.noDict_hsm nd) gd (by omega) (fun _ _ z => z) fin sz
  | non => cases ru; rw [PyData.shown_none] at fin; exact PySem.P.repr_of_none (fin s.heap _ _ fun _ _ z => z)
  | bl b => cases ru; rw [PyData.shown_bool] at fin; exact PySem.P.repr_of_bool (by cases b <;> exact fin s.heap _ _ fun _ _ z => z)
  | int i => obtain ⟨t, rfl⟩ := ru; rw [PyData.shown_int] at fin; exact PySem.P.repr_of_int (by simpa [PyData.showable] using sh) (fin s.heap _ _ fun _ _ z => z)
  | str z => obtain ⟨t, rfl⟩ := ru; rw [PyData.shown_str] at fin sz; exact PySem.P.repr_of_str (fin s.heap _ _ fun _ _ z => z) sz
end
/-! ### the law's own call -/
section
variable {P : Program} {w : World} {K : PySem.W.Frag} {mg mb : Str → Option Value} {k : Nat} {fa a : Addr} {fd : FuncData} {x : Str} {sp : Sp} {s1 : Shared} {vs : List Value} {ns : List Int}
theorem callG_core (hr : Room k callerA) (F : ∀ bs : Heap, K.In bs → bs.Ns mainGlobals mg → FnG P w K mg bs CX0 k fa fd [x] sp) (hbd : ∀ (s : Shared) (u : Value), BindsTo s fd ⟨[u], []⟩ [(x, u)])
    (KX : K.In s1.heap) (n1 : s1.heap.Ns mainGlobals mg) (n2 : s1.heap.Ns builtinsNs mb) (n3 : ∀ x : Str, x ≠ "__name__" → mb x = bootBuiltins x) (n4 : s1.heap.NoLimit) (n5 : s1.gens = #[])
    (ha : s1.heap.get? a = some { cls := .type "list", data := .seq vs.toArray }) (H : Hp) (hO : Only H) (hok : HOk P w H s1.heap) (hA : ∀ b, H b ≠ none → b = a) (hK : H a ≠ none → K.lookup a = none)
    (hsp : sp [.ref a] H (fun v _ => v = .bl true) fun _ _ _ => False) :
    codeAny (model P w) callerA (.call (.ref fa) ⟨[.ref a], []⟩) (fun r s' => r = .ok (.ret (.bool true)) ∧ OldK s1.heap s'.heap ∧ s'.os = s1.os ∧ AllBare s'.gens) s1 := by
  have noD : ∀ (b : Addr) (o : Obj) (es : Array DictEntry) (ep : Nat), s1.heap.get? b = some o → o.data = .dict es ep → H b = none := by
    intro b o es ep e d
    by_cases z : H b = none
    · exact z
    · rw [hA b z, ha] at e
      cases e
      exact nomatch (show Data.seq vs.toArray _ = Data.dict es ep from d)
  have nsB : ∀ (b : Addr) (m : Str → Option Value), s1.heap.Ns b m → (hidT s1.heap H).Ns b m := by
    rintro b m ⟨o, es, ep, e, d, rest⟩
    exact ⟨o, es, ep, hidT_get e (noD b o es ep e d), d, rest⟩
  have inB : K.In (hidT s1.heap H) := by
    intro b o e
    refine hidT_get (KX b o e) ?_
    by_cases z : H b = none
    · exact z
    · have eb := hA b z
      rw [eb] at z e
      rw [hK z] at e
      cases e
  obtain ⟨mc, l1, l2⟩ := n4
  have md : Mod K mg (hidT s1.heap H) := ⟨inB, nsB _ _ n1, ⟨mb, nsB _ _ n2, n3⟩, ⟨mc, nsB _ _ l1, l2⟩⟩
  have en : Env0 P w K mg (hidT s1.heap H) callerA [] s1 H :=
    ⟨rfl, md, fun b o e => of_hidT e, Nat.le_of_eq (hidT_size _ _), trivial, fun b z => (nomatch (show b ∈ ([] : List Addr) from z)), hok, AllBare.of_eq n5⟩
  refine codeAny_mono ((F _ inB (nsB _ _ n1)).run callerA [] s1 H ⟨[.ref a], []⟩ [.ref a] [.ref a] _ _ rfl hr en (hbd s1 (.ref a)) (.cons rfl .nil) hsp) fun r s' h => ?_
  match r, h with
  | .error e, h => exact h.elim
  | .ok (.ret u), h =>
    obtain ⟨v, H', os, bare, un, hok2, r2, q⟩ := h
    cases (show v = .bl true from q)
    cases (show u = Value.bool true from r2)
    refine ⟨rfl, OldK.of_keep fun b o e => ?_, os, bare⟩
    rcases hO b with z | ⟨ob, xs, z⟩
    · exact un.keep b o e z (fun q => nomatch (show b ∈ ([] : List Addr) from q)) (fun q => nomatch q)
    · obtain ⟨e1, _⟩ := hok b _ z
      obtain ⟨e2, _⟩ := hok2 b _ (un.frzs b ob _ z)
      rw [e] at e1; cases e1
      exact e2
theorem callG (hr : Room k callerA) (F : ∀ bs : Heap, K.In bs → bs.Ns mainGlobals mg → FnG P w K mg bs CX0 k fa fd [x] sp) (hbd : ∀ (s : Shared) (u : Value), BindsTo s fd ⟨[u], []⟩ [(x, u)])
    (KX : K.In s1.heap) (n1 : s1.heap.Ns mainGlobals mg) (n2 : s1.heap.Ns builtinsNs mb) (n3 : ∀ x : Str, x ≠ "__name__" → mb x = bootBuiltins x) (n4 : s1.heap.NoLimit) (n5 : s1.gens = #[])
    (ha : s1.heap.get? a = some { cls := .type "list", data := .seq vs.toArray }) (hi : IntsAre vs ns) (hl : ns.length ≤ sizeLine)
    (hsp : ∀ H : Hp, Only H → SqL K H a (ns.map V.int) → sp [.ref a] H (fun v _ => v = .bl true) fun _ _ _ => False) :
    codeAny (model P w) callerA (.call (.ref fa) ⟨[.ref a], []⟩) (fun r s' => r = .ok (.ret (.bool true)) ∧ OldK s1.heap s'.heap ∧ s'.os = s1.os ∧ AllBare s'.gens) s1 := by
  have rv := vals_ints hi
  have lv := hi.length
  by_cases hk : K.lookup a = none
  · let H : Hp := fun b => if b = a then some (.frz { cls := .type "list", data := .seq vs.toArray } (.lst (ns.map V.int))) else none
    have at1 : H a = some (.frz { cls := .type "list", data := .seq vs.toArray } (.lst (ns.map V.int))) := if_pos rfl
    have at2 : ∀ b, b ≠ a → H b = none := fun b n => if_neg n
    have only : Only H := fun b => by
      by_cases hb : b = a
      · rw [hb]; exact .inr ⟨_, _, at1⟩
      · exact .inl (at2 b hb)
    refine callG_core hr F hbd KX n1 n2 n3 n4 n5 ha H only (fun b u z => ?_) (fun b z => ?_) (fun _ => hk) (hsp H only (.inl (.inr ⟨_, at1⟩)))
    · by_cases hb : b = a
      · rw [hb, at1] at z
        cases z
        rw [hb]
        exact ⟨ha, by rw [List.length_map]; exact hl, vs, _, rv, ha⟩
      · rw [at2 b hb] at z; cases z
    · by_cases hb : b = a
      · exact hb
      · exact absurd (at2 b hb) z
  · obtain ⟨o, ho⟩ := Option.ne_none_iff_exists'.mp hk
    have e := KX a o ho
    rw [ha] at e
    cases e
    have only : Only (fun _ => none) := fun _ => .inl rfl
    exact callG_core hr F hbd KX n1 n2 n3 n4 n5 ha (fun _ => none) only (fun b u z => nomatch (show (none : Option HO) = some u from z)) (fun b z => absurd rfl z) (fun z => absurd rfl z)
      (hsp _ only (.inr ⟨_, vs.toArray, _, ho, rfl, rfl, rfl, by rw [List.size_toArray, lv]; exact hl, by simpa using rv⟩))
end
theorem walkG {l : PySem.W.OpenLaw} {n k : Nat} {q : Program} {ls : List Str} {XP : (Str → Option Value) → Heap → Prop} {YP : World → Heap → Prop} {d : DefRec} {x : Str}
    (hn : l.most = some n) (hn2 : n ≤ sizeLine) (hdf : d.params.defaults = []) (hr : Room k callerA)
    (F : ∀ (w : World) (mg : Str → Option Value) (fa : Addr) (h : Heap), YP w h → h.Ns mainGlobals mg → mg d.name = some (.ref fa) →
      ∃ (K : PySem.W.Frag) (fd : FuncData) (sp : Sp), K.In h ∧ (∀ (s : Shared) (u : Value), BindsTo s fd ⟨[u], []⟩ [(x, u)]) ∧
        (∀ (H : Hp) (a : Addr) (ns : List Int), ns.length ≤ n → Only H → SqL K H a (ns.map V.int) → sp [.ref a] H (fun v _ => v = .bl true) fun _ _ _ => False) ∧
        ∀ bs : Heap, K.In bs → bs.Ns mainGlobals mg → FnG l.prog w K mg bs CX0 k fa fd [x] sp) :
    PySem.W.WalkO q ls XP YP l.row.toRowW d [] (fun f vs => PySem.call f vs) := by
  refine Att.attach_call hn hdf ?_
  intro w s0 s1 mg mb fa o pm cd doc a vs ns G Y ho hd hcd hmg hobj hints hlen hg
  obtain ⟨K, fd, sp, KX, hb, hsp, hF⟩ := F w mg fa _ Y G.T.g hmg
  exact callG hr hF hb KX G.T.g G.T.b G.T.builtins G.T.nolimit hg hobj hints (Nat.le_trans hlen hn2) (fun H hO hS => hsp H a ns hlen hO hS)
end EL

set_option Elab.async false
set_option linter.all false
set_option maxRecDepth 100000
set_option maxHeartbeats 4000000
set_option autoImplicit false
namespace EL
open PySem PySem.Spec PyProof.Rows L2
theorem rm66 {k : Nat} {A : Around} (r : Room k A) : A.units + 66 < cLine := by have := r.un; omega
/-! ### the slots by other words -/
def Cv (B' : Bn) (H : Hp) : List (Option PV) → List (Option PV) → Prop
  | [], [] => True
  | _ :: a, none :: b => Cv B' H a b
  | some p :: a, some q :: b => (∀ v, p v H → q v H) ∧ Stb B' q ∧ Cv B' H a b
  | _, _ => False
theorem Cv.len {B' : Bn} {H : Hp} : ∀ {a b : List (Option PV)}, Cv B' H a b → a.length = b.length
  | [], [], _ => rfl
  | _ :: a, none :: b, h => by rw [List.length_cons, List.length_cons, Cv.len (a := a) (b := b) (by cases ‹Option PV› <;> exact h)]
  | some _ :: a, some _ :: b, h => by rw [List.length_cons, List.length_cons, Cv.len (a := a) (b := b) h.2.2]
  | none :: _, some _ :: _, h => h.elim
  | [], _ :: _, h => h.elim
  | _ :: _, [], h => by cases ‹Option PV› <;> cases h
theorem Cv.get {B' : Bn} {H : Hp} : ∀ {a b : List (Option PV)} {i : Nat} {q : PV}, Cv B' H a b → b[i]? = some (some q) → Stb B' q ∧ ∃ p, a[i]? = some (some p) ∧ ∀ v, p v H → q v H
  | [], [], _, _, _, e => by simp at e
  | x :: a, none :: b, 0, q, _, e => by simp at e
  | x :: a, none :: b, i + 1, q, h, e => by
    have := Cv.get (a := a) (b := b) (i := i) (q := q) (by cases x <;> exact h) (by simpa using e)
    simpa using this
  | some x :: a, some y :: b, 0, q, h, e => by
    have e1 : y = q := by simpa using e
    subst e1
    exact ⟨h.2.1, x, rfl, h.1⟩
  | some x :: a, some y :: b, i + 1, q, h, e => by
    have := Cv.get (a := a) (b := b) (i := i) (q := q) h.2.2 (by simpa using e)
    simpa using this
  | none :: _, some _ :: _, _, _, h, _ => h.elim
  | [], _ :: _, _, _, h, _ => h.elim
  | _ :: _, [], _, _, h, _ => by cases ‹Option PV› <;> cases h
theorem SD.cv {B B' : Bn} {H : Hp} {σ : L2.St} {δ δ' : List (Option PV)} (s : SD B H σ δ) (o : BOk B' H) (c : Cv B' H δ δ') : SD B' H σ δ' := ⟨o, s.len.trans c.len, fun i q e => by
  obtain ⟨hq, p, e1, h⟩ := c.get e
  obtain ⟨v, e2, pv⟩ := s.get e1
  exact ⟨hq, v, e2, h v pv⟩⟩
theorem im_pl {K : PySem.W.Frag} {B B' : Bn} {H : Hp} {d : PyData} (h : plain d = true) : ∀ v, im K B d v H → im K B' d v H := fun v q => im_tk ⟨fun _ _ z => z, fun _ _ _ z => z⟩ d v h q
/-- one list of one's own -/
abbrev own1 (p : Addr) : Bn := fun a => a = p
theorem own1.ok {p : Addr} {H : Hp} {o : HO} (h : H p = some o) : BOk (own1 p) H := fun a z => by rw [z, h]; exact fun q => nomatch q
theorem RB.own {p : Addr} {H0 H Hc : Hp} (e : Ex H0 H) (n : H0 p = none) (r : RB (own1 p) H Hc) : Ex H0 Hc := fun a o h => r.keep a o (fun z => by rw [show a = p from z, n] at h; cases h) (e a o h)
section
variable {B : Bn} {K : PySem.W.Frag} {δ : List (Option PV)} {H : Hp} {te : TE} {q : PV} {D : Ends} {σ : L2.St}
theorem st_append [Stb B q] {i : Nat} {p : Addr} {vs : List V} (S : SD B H σ δ) (hi : δ[i]? = some (some (isP (.ref p)))) (hb : B p) (hp : H p = some (.lst vs)) (hl : vs.length < sizeLine) (he : Ev Ex B te δ H q)
    (k : ∀ v H3, SD B H3 σ δ → q v H3 → H3 p = some (.lst (vs ++ [v])) → RB B H H3 → D.nx σ H3) : tDrop (tBM K "list" rAppend (tVar i) (tCons te tNil)) D σ H := by
  refine st_lmeth (R := Ex) S (ev_var hi) (ea_cons he ea_nil) (fun H1 r1 => ⟨_, r1 _ _ hp⟩) fun us H2 r2 S2 ⟨v, r, e, hq, e2⟩ => ?_
  subst e; cases (show r = [] from e2)
  have h2 := r2 _ _ hp
  have rb := RB.updB (RB.refl H2) hb h2 (o := .lst (vs ++ [v]))
  exact ⟨p, vs, v, rfl, rfl, h2, hl, k v _ (S2.mono rb) (Stb.st rb hq) upd_same ((RB.of_ex r2).trans rb)⟩
end
section
variable {R : Hp → Hp → Prop} {B : Bn} [rk : Rok B R] {K : PySem.W.Frag} {δ : List (Option PV)} {H : Hp} {ta tb te : TE} {C : Int → Prop}
theorem ev_ixN {ds : List PyData} (ha : Ev R B ta δ H (im K B (.list ds))) (hb : Ev R B tb δ H (intP C)) (hc : ∀ i, C i → 0 ≤ i ∧ i < ds.length) : Ev R B (tOp (rIx K) ta tb) δ H (exP (· ∈ ds) (im K B)) :=
  ev_op ha hb fun x y H1 _ _ ⟨a, vs, hx, _, hs, hv⟩ ⟨i, c, hy⟩ Q k => by
    obtain ⟨h0, h1⟩ := hc i c
    have hl : i.toNat < ds.length := by omega
    have e : atI ds i = some ds[i.toNat] := by
      have := atI_nat (List.getElem?_eq_getElem hl)
      rwa [Int.toNat_of_nonneg h0] at this
    obtain ⟨v, e1, e2⟩ := atI_im hv e
    exact .inl ⟨a, vs, i, v, hx, hy, hs, e1, k v H1 (Ex.refl H1) ⟨_, List.getElem_mem hl, e2⟩⟩
theorem ev_repr {d : PyData} (he : Ev R B te δ H (im K B d)) (h1 : d.showable = true) (h2 : d.hasDict = false) (h3 : d.depth ≤ 64) (h4 : d.shown.length ≤ sizeLine) : Ev R B (tCB (rReprD K) (tCons te tNil)) δ H (im K B (.str d.shown)) :=
  ev_cb (ea_cons he ea_nil) fun vs H1 _ _ ⟨v, r, e, hv, e2⟩ Q k => by
    subst e; cases (show r = [] from e2)
    exact ⟨v, d, rfl, im_dp _ _ hv, h1, h2, h3, h4, k _ H1 (rk.rf H1) rfl⟩
end
/-! ### choosing from a list by the hand -/
def spOf (K : PySem.W.Frag) : Sp := fun vs H Q _ => ∃ (B : Bn) (h l : Addr) (ds : List PyData) (v : V), Has B h l ∧ BOk B H ∧ vs = [.ref h, v] ∧ HandOk h l H ∧ im K B (.list ds) v H ∧ 1 ≤ ds.length ∧ ds.length < 1073741824 ∧
  ∀ d u H', d ∈ ds → Rh h l H H' → im K B d u H' → Q u H'
theorem ev_of {B : Bn} {h l : Addr} [hs : Has B h l] {K : PySem.W.Frag} {δ : List (Option PV)} {H : Hp} {ta tb : TE} {E : XK} {ds : List PyData} (hk : HandOk h l H) (ha : Ev (Rh h l) B ta δ H (isP (.ref h))) (hb : Ev (Rh h l) B tb δ H (im K B (.list ds)))
    (h1 : 1 ≤ ds.length) (h2 : ds.length < 1073741824) : Ev (Rh h l) B (tCall (spOf K) [] E (tCons ta (tCons tb tNil))) δ H (exP (· ∈ ds) (im K B)) := fun σ H1 r1 S Q k =>
  ha σ H1 r1 S _ fun x H2 r2 ex => hb σ H2 (Rok.tr B r1 r2) (S.mono (Rok.rb r2)) _ fun y H3 r3 hy =>
    ⟨B, h, l, ds, y, hs, S.ok.mono (Rok.rb (Rok.tr B r2 r3)), by rw [show x = _ from ex]; rfl, ((r1.ok hk |> r2.ok) |> r3.ok), hy, h1, h2, fun d u H4 hd r4 hu => k _ H4 (Rok.tr B (Rok.tr B r2 r3) r4) ⟨d, hd, hu⟩⟩
/-! ### isinstance -/
def tyName : PyData → String
  | .none => "NoneType"
  | .bool _ => "bool"
  | .int _ => "int"
  | .str _ => "str"
  | .list _ => "list"
  | .tuple _ => "tuple"
  | .dict _ => "dict"
theorem im_ty {K : PySem.W.Frag} {B : Bn} {H : Hp} : ∀ {d : PyData} {v : V}, im K B d v H → TyX K H v (.type (tyName d))
  | .none, _, h => by cases (show _ = _ from h); exact .base .non
  | .bool _, _, h => by cases (show _ = _ from h); exact .base (.bl _)
  | .int _, _, h => by cases (show _ = _ from h); exact .base (.int _)
  | .str _, _, h => by cases (show _ = _ from h); exact .base (.str _)
  | .tuple ds, _, ⟨a, vs, e, s, _⟩ => by
    subst e
    rcases s with (s | ⟨o, s⟩) | ⟨o, its, n, h1, h2, _⟩
    · exact .base (.tup s)
    · exact .fTuple s
    · exact .kTuple h1 h2
  | .list ds, _, ⟨a, vs, e, _, s, _⟩ => by
    subst e
    rcases s with (s | ⟨o, s⟩) | ⟨o, its, n, h1, h2, _⟩
    · exact .base (.lst s)
    · exact .base (.frz s)
    · exact .kList h1 h2
  | .dict _, _, h => h.elim
theorem ev_isi {R : Hp → Hp → Prop} {B : Bn} [rk : Rok B R] {K : PySem.W.Frag} {δ : List (Option PV)} {H : Hp} {te : TE} {d : PyData} {T : String} {b : Bool} (he : Ev R B te δ H (im K B d)) (hb : kitB (tyName d) T = some b) :
    Ev R B (tCB (rIsi K) (tCons te (tCons (tC (.ty T)) tNil))) δ H (im K B (.bool b)) :=
  ev_cb (ea_cons he (ea_cons (ev_c (v := .ty T)) ea_nil)) fun vs H1 _ _ ⟨v, r, e, hv, v2, r2, e2, hv2, e3⟩ Q k => by
    subst e e2; cases (show r2 = [] from e3); cases (show v2 = _ from hv2)
    exact ⟨v, .ty T, _, _, b, rfl, .ty T, im_ty hv, kit_ty hb, k _ H1 (rk.rf H1) rfl⟩
theorem kit_none_int : kitB (tyName .none) "int" = some false := show kitB "NoneType" "int" = _ by decide +kernel
theorem kit_none_bool : kitB (tyName .none) "bool" = some false := show kitB "NoneType" "bool" = _ by decide +kernel
theorem kit_none_str : kitB (tyName .none) "str" = some false := show kitB "NoneType" "str" = _ by decide +kernel
theorem kit_none_tuple : kitB (tyName .none) "tuple" = some false := show kitB "NoneType" "tuple" = _ by decide +kernel
theorem kit_none_list : kitB (tyName .none) "list" = some false := show kitB "NoneType" "list" = _ by decide +kernel
theorem kit_bool_int {x : Bool} : kitB (tyName (.bool x)) "int" = some true := show kitB "bool" "int" = _ by decide +kernel
theorem kit_bool_bool {x : Bool} : kitB (tyName (.bool x)) "bool" = some true := show kitB "bool" "bool" = _ by decide +kernel
theorem kit_bool_str {x : Bool} : kitB (tyName (.bool x)) "str" = some false := show kitB "bool" "str" = _ by decide +kernel
theorem kit_bool_tuple {x : Bool} : kitB (tyName (.bool x)) "tuple" = some false := show kitB "bool" "tuple" = _ by decide +kernel
theorem kit_bool_list {x : Bool} : kitB (tyName (.bool x)) "list" = some false := show kitB "bool" "list" = _ by decide +kernel
theorem kit_int_int {x : Int} : kitB (tyName (.int x)) "int" = some true := show kitB "int" "int" = _ by decide +kernel
theorem kit_int_bool {x : Int} : kitB (tyName (.int x)) "bool" = some false := show kitB "int" "bool" = _ by decide +kernel
theorem kit_int_str {x : Int} : kitB (tyName (.int x)) "str" = some false := show kitB "int" "str" = _ by decide +kernel
theorem kit_int_tuple {x : Int} : kitB (tyName (.int x)) "tuple" = some false := show kitB "int" "tuple" = _ by decide +kernel
theorem kit_int_list {x : Int} : kitB (tyName (.int x)) "list" = some false := show kitB "int" "list" = _ by decide +kernel
theorem kit_str_int {x : Str} : kitB (tyName (.str x)) "int" = some false := show kitB "str" "int" = _ by decide +kernel
theorem kit_str_bool {x : Str} : kitB (tyName (.str x)) "bool" = some false := show kitB "str" "bool" = _ by decide +kernel
theorem kit_str_str {x : Str} : kitB (tyName (.str x)) "str" = some true := show kitB "str" "str" = _ by decide +kernel
theorem kit_str_tuple {x : Str} : kitB (tyName (.str x)) "tuple" = some false := show kitB "str" "tuple" = _ by decide +kernel
theorem kit_str_list {x : Str} : kitB (tyName (.str x)) "list" = some false := show kitB "str" "list" = _ by decide +kernel
theorem kit_list_int {x : List PyData} : kitB (tyName (.list x)) "int" = some false := show kitB "list" "int" = _ by decide +kernel
theorem kit_list_bool {x : List PyData} : kitB (tyName (.list x)) "bool" = some false := show kitB "list" "bool" = _ by decide +kernel
theorem kit_list_str {x : List PyData} : kitB (tyName (.list x)) "str" = some false := show kitB "list" "str" = _ by decide +kernel
theorem kit_list_tuple {x : List PyData} : kitB (tyName (.list x)) "tuple" = some false := show kitB "list" "tuple" = _ by decide +kernel
theorem kit_list_list {x : List PyData} : kitB (tyName (.list x)) "list" = some true := show kitB "list" "list" = _ by decide +kernel
theorem kit_tuple_int {x : List PyData} : kitB (tyName (.tuple x)) "int" = some false := show kitB "tuple" "int" = _ by decide +kernel
theorem kit_tuple_bool {x : List PyData} : kitB (tyName (.tuple x)) "bool" = some false := show kitB "tuple" "bool" = _ by decide +kernel
theorem kit_tuple_str {x : List PyData} : kitB (tyName (.tuple x)) "str" = some false := show kitB "tuple" "str" = _ by decide +kernel
theorem kit_tuple_tuple {x : List PyData} : kitB (tyName (.tuple x)) "tuple" = some true := show kitB "tuple" "tuple" = _ by decide +kernel
theorem kit_tuple_list {x : List PyData} : kitB (tyName (.tuple x)) "list" = some false := show kitB "tuple" "list" = _ by decide +kernel
theorem kit_dict_int {x : List (PyData × PyData)} : kitB (tyName (.dict x)) "int" = some false := show kitB "dict" "int" = _ by decide +kernel
theorem kit_dict_bool {x : List (PyData × PyData)} : kitB (tyName (.dict x)) "bool" = some false := show kitB "dict" "bool" = _ by decide +kernel
theorem kit_dict_str {x : List (PyData × PyData)} : kitB (tyName (.dict x)) "str" = some false := show kitB "dict" "str" = _ by decide +kernel
theorem kit_dict_tuple {x : List (PyData × PyData)} : kitB (tyName (.dict x)) "tuple" = some false := show kitB "dict" "tuple" = _ by decide +kernel
theorem kit_dict_list {x : List (PyData × PyData)} : kitB (tyName (.dict x)) "list" = some false := show kitB "dict" "list" = _ by decide +kernel
end EL

set_option Elab.async false
set_option linter.all false
set_option maxRecDepth 100000
set_option maxHeartbeats 4000000
set_option autoImplicit false
namespace EL
open PySem PySem.Spec PyProof.Rows L2
/-- what is open in a slot is told -/
theorem SD.opn {B : Bn} {H : Hp} {σ : L2.St} {δ : List (Option PV)} {α : Type} {C : α → Prop} {q : α → PV} [∀ a, Stb B (q a)] (s : SD B H σ δ) (i : Nat) (e : δ[i]? = some (some (exP C q))) : ∃ a, C a ∧ SD B H σ (δ.set i (some (q a))) := by
  obtain ⟨v, e1, a, c, h⟩ := s.get e
  refine ⟨a, c, s.ok, by rw [List.length_set]; exact s.len, fun j p e2 => ?_⟩
  by_cases hj : i = j
  · subst hj
    have hl : i < δ.length := by
      rcases Nat.lt_or_ge i δ.length with z | z
      · exact z
      · rw [List.getElem?_eq_none z] at e; cases e
    rw [List.getElem?_set_self hl] at e2
    cases e2
    exact ⟨inferInstance, v, e1, h⟩
  · rw [List.getElem?_set_ne hj] at e2
    exact s.at_ j p e2
theorem SD.opnI {K : PySem.W.Frag} {B : Bn} {H : Hp} {σ : L2.St} {δ : List (Option PV)} {C : Int → Prop} (s : SD B H σ δ) (i : Nat) (e : δ[i]? = some (some (intP C))) : ∃ a, C a ∧ SD B H σ (δ.set i (some (im K B (.int a)))) := by
  obtain ⟨v, e1, a, c, h⟩ := s.get e
  refine ⟨a, c, s.ok, by rw [List.length_set]; exact s.len, fun j p e2 => ?_⟩
  by_cases hj : i = j
  · subst hj
    have hl : i < δ.length := by
      rcases Nat.lt_or_ge i δ.length with z | z
      · exact z
      · rw [List.getElem?_eq_none z] at e; cases e
    rw [List.getElem?_set_self hl] at e2
    cases e2
    exact ⟨inferInstance, v, e1, h⟩
  · rw [List.getElem?_set_ne hj] at e2
    exact s.at_ j p e2
section
variable {R : Hp → Hp → Prop} {B : Bn} [rk : Rok B R] {K : PySem.W.Frag} {δ : List (Option PV)} {H : Hp} {ta tb te : TE} {D : Ends} {σ : L2.St} {i j : Nat}
/-- a, b = x, y by way of a tuple -/
theorem st_tup2 {ta : TA} {p q : PV} [Stb B p] [Stb B q] (S : SD B H σ δ) (h : EvA R B ta δ H [p, q]) (k : ∀ σ' H2, R H H2 → SD B H2 σ' ((δ.set i (some p)).set j (some q)) → D.nx σ' H2) :
    tAsg (tTup ta) (gTup K 2 (gCons (gName i) (gCons (gName j) gNil))) D σ H :=
  h σ H (rk.rf H) S _ fun vs H2 r2 ⟨v, r, e, pv, v2, r', e', qv, e''⟩ => by
    subst e e'; cases (show r' = [] from e'')
    refine ⟨show 2 ≤ sizeLine by decide, fun T hT => ⟨T, _, rfl, sqT_of upd_same, rfl, v, _, rfl, v2, _, rfl, rfl, ?_⟩⟩
    have ex : Ex H2 (upd H2 T (.tup [v, v2])) := Ex.new hT
    exact k _ _ (rk.tr r2 (rk.ex ex)) ((((S.mono (rk.rb r2)).mono (RB.of_ex ex)).set (Stb.st (B := B) (RB.of_ex ex) pv)).set (Stb.st (B := B) (RB.of_ex ex) qv))
/-- over a range of an open number of turns -/
theorem ev_lcB {g : TG} {tt : TT} {vs : List Nat} {N : Int → Prop} {p : PV} (hn : Ev R B ta δ H (intP N)) (h : ∀ n, N n → ∀ H1, R H H1 → Ev R B (tLc (iRng1 (tCons (tC (.int n)) tNil)) g tt te vs) δ H1 p) : Ev R B (tLc (iRng1 (tCons ta tNil)) g tt te vs) δ H p :=
  fun σ H1 r1 S Q k => hn σ H1 r1 S _ fun v H2 r2 ⟨n, c, e⟩ => by
    subst e
    exact h n c H2 (rk.tr r1 r2) σ H2 (rk.rf H2) (S.mono (rk.rb r2)) Q fun v H3 r3 pv => k v H3 (rk.tr r2 r3) pv
theorem ev_tupleLx {α : Type} {C : α → Prop} {f : α → List PyData} (ha : Ev R B ta δ H (exP C fun a => im K B (.list (f a)))) : Ev R B (tCB (rTupQ K) (tCons ta tNil)) δ H (exP C fun a => im K B (.tuple (f a))) :=
  ev_cb (ea_cons ha ea_nil) fun vs H1 _ _ ⟨v, r, e, ⟨z, c, a, xs, e1, _, s, h⟩, e2⟩ Q k => by
    subst e e1; cases (show r = [] from e2)
    exact ⟨a, xs, rfl, .inl ⟨s, fun l hl => k _ _ (rk.ex (Ex.new hl)) ⟨z, c, l, xs, rfl, sqT_of upd_same, imAll_st (RB.of_ex (Ex.new hl)) _ _ h⟩⟩⟩
theorem ev_tup2x {α : Type} {C : α → Prop} {f : α → PyData} {d : PyData} (ha : Ev R B ta δ H (im K B d)) (hb : Ev R B tb δ H (exP C fun a => im K B (f a))) : Ev R B (tTup (tCons ta (tCons tb tNil))) δ H (exP C fun a => im K B (.tuple [d, f a])) := fun σ H1 r1 S Q k =>
  ea_cons ha (ea_cons hb ea_nil) σ H1 r1 S _ fun vs H2 r2 ⟨v, r, e, pv, v2, r', e', ⟨a, c, qv⟩, e''⟩ => by
    subst e e'; cases (show r' = [] from e'')
    exact ⟨show 2 ≤ sizeLine by decide, fun T hT => k _ _ (rk.tr r2 (rk.ex (Ex.new hT))) ⟨a, c, T, _, rfl, sqT_of upd_same, imAll_st (B := B) (RB.of_ex (Ex.new hT)) [d, f a] [v, v2] ⟨v, _, rfl, pv, v2, _, rfl, qv, rfl⟩⟩⟩
end
/-- picks, as many as a range has -/
theorem ev_picks {B : Bn} {h l : Addr} [hs : Has B h l] {K : PySem.W.Frag} {δ : List (Option PV)} {H : Hp} {ta tn tm : TE} {E : XK} {N : Int → Prop} {v : Nat} {m : Int} (hk : HandOk h l H) (hn : Ev (Rh h l) B tn δ H (intP N)) (hN : ∀ n, N n → 0 ≤ n ∧ n ≤ 100000)
    (ha : ∀ i Hc, Rh h l H Hc → Ev (Rh h l) B ta ((δ.set v none).set v (some (im K B (.int i)))) Hc (isP (.ref h))) (hm : ∀ i Hc, Rh h l H Hc → Ev (Rh h l) B tm ((δ.set v none).set v (some (im K B (.int i)))) Hc (im K B (.int m))) (m1 : 1 ≤ m) (m2 : m < 1073741824) :
    Ev (Rh h l) B (tLc (iRng1 (tCons tn tNil)) (gName v) tYes (tCall spPick [] E (tCons ta (tCons tm tNil))) [v]) δ H (exP (fun ns : List Int => N ns.length ∧ ∀ x ∈ ns, 0 ≤ x ∧ x < m) fun ns => im K B (.list (ns.map .int))) :=
  ev_lcB hn fun n c H1 r1 => by
    obtain ⟨n0, n1⟩ := hN n c
    refine (ev_lc (K := K) (fun i ds => ∃ ns : List Int, ds = ns.map .int ∧ ns.length = i ∧ ∀ x ∈ ns, 0 ≤ x ∧ x < m) (src_range1 (K := K) (ev_int (i := n)) (by omega) (by omega)) (Nat.le_trans (show n.toNat ≤ 100000 by omega) (by decide)) ⟨[], rfl, rfl, by simp⟩ fun i ds Hc hi ⟨ns, e, hl, hx⟩ r =>
      ⟨_, etx_yes, (fun z => Bool.noConfusion z), fun _ Hd rd => ⟨fun d => ∃ x : Int, d = .int x ∧ 0 ≤ x ∧ x < m, (ev_pickI (rd.ok (r.ok (r1.ok hk))) (ha i Hd (Rok.tr B (Rok.tr B r1 r) rd)) (hm i Hd (Rok.tr B (Rok.tr B r1 r) rd)) m1 m2).conv fun u _ _ ⟨x, c, e⟩ => ⟨.int x, ⟨x, rfl, c.1, c.2⟩, e⟩, fun d ⟨x, ed, h0, h1⟩ => ?_⟩⟩).conv
      fun u H2 _ ⟨ds, ⟨ns, e, hl, hx⟩, hu⟩ => ⟨ns, ⟨by rw [hl, Int.toNat_of_nonneg n0]; exact c, hx⟩, by show im K B (.list (ns.map .int)) u H2; rw [← e]; exact hu⟩
    subst ed
    refine ⟨rfl, ns ++ [x], by rw [e, List.map_append]; rfl, by rw [List.length_append, hl]; rfl, fun y hy => ?_⟩
    rcases List.mem_append.mp hy with z | z
    · exact hx y z
    · rw [List.mem_singleton.mp z]; exact ⟨h0, h1⟩
/-! ### words that are shown -/
theorem showableAll_small {ns : List Int} (h : ∀ x ∈ ns, 0 ≤ x ∧ x < 1000) : PyData.showableAll (ns.map .int) = true := PyData.showableAll_ints ns fun n hn => by
  have := h n hn
  have e : n.natAbs < 2 ^ 10 := by omega
  by_cases z : n.natAbs = 0
  · rw [z]; decide
  · have := (Nat.log2_lt z).mpr e
    omega
theorem hasDictAll_ints : ∀ ns : List Int, PyData.hasDictAll (ns.map .int) = false
  | [] => by rfl
  | n :: ns => by
    have := hasDictAll_ints ns
    simp only [List.map_cons, PyData.hasDictAll, PyData.hasDict, this, Bool.or_self]
theorem leavesShortAll_small {ns : List Int} (h : ∀ x ∈ ns, 0 ≤ x ∧ x < 1000) : PyData.leavesShortAll 13 (ns.map .int) = true := by
  refine PyData.leavesShortAll_of_canLay0 13 _ (canLayAll_ints ns) (PyData.intsShortAll_ints ns fun n hn => ?_)
  have := h n hn
  omega
theorem weightAll_small : ∀ {ns : List Int}, (∀ x ∈ ns, 0 ≤ x ∧ x < 1000) → PyData.weightAll (ns.map .int) ≤ 11 * ns.length
  | [], _ => by simp [PyData.weightAll]
  | n :: ns, h => by
    have ih := weightAll_small (ns := ns) fun x hx => h x (List.mem_cons_of_mem _ hx)
    have h1 := h n List.mem_cons_self
    simp only [List.map_cons, PyData.weightAll, PyData.weight, List.length_cons]
    have : (if (n == 0) = true then 0 else n.natAbs.log2 + 1) ≤ 10 := by
      split
      · omega
      · rename_i z
        have z : n ≠ 0 := by simpa using z
        have := (Nat.log2_lt (show n.natAbs ≠ 0 by omega)).mpr (show n.natAbs < 2 ^ 10 by omega)
        omega
    omega
structure Shows (d : PyData) : Prop where
  s1 : d.showable = true
  s2 : d.hasDict = false
  s3 : d.depth ≤ 64
  s4 : d.shown.length ≤ sizeLine
theorem shows_wd {b r : List Int} (hb : ∀ x ∈ b, 0 ≤ x ∧ x < 1000) (hr : ∀ x ∈ r, 0 ≤ x ∧ x < 1000) (hl : b.length + r.length ≤ 10000) : Shows (wd b r) := by
  refine ⟨?_, ?_, ?_, ?_⟩
  · simp only [PyData.showable, PyData.showableAll, showableAll_small hb, showableAll_small hr, Bool.and_self]
  · simp only [PyData.hasDict, PyData.hasDictAll, hasDictAll_ints, Bool.or_self]
  · have h1 := depthAll_ints b
    have h2 := depthAll_ints r
    simp only [PyData.depth, PyData.depthAll]
    omega
  · refine PyData.shown_fits (B := 13) (by decide) (by decide) ?_ ?_
    · simp only [PyData.leavesShort, PyData.leavesShortAll, leavesShortAll_small hb, leavesShortAll_small hr, Bool.and_self]
    · have h1 := weightAll_small hb
      have h2 := weightAll_small hr
      simp only [PyData.weight, PyData.weightAll]
      omega
theorem ev_reprS {R : Hp → Hp → Prop} {B : Bn} [rk : Rok B R] {K : PySem.W.Frag} {δ : List (Option PV)} {H : Hp} {te : TE} {d : PyData} (he : Ev R B te δ H (im K B d)) (s : Shows d) : Ev R B (tCB (rReprD K) (tCons te tNil)) δ H (im K B (.str d.shown)) := ev_repr he s.s1 s.s2 s.s3 s.s4
theorem st_hand {K : PySem.W.Frag} {N : List Str} {a : Addr} {ns : List Int} {n : Nat} {D : Ends} {H : Hp} {E : XK} (hN : N.length = n + 2) (hS : SqL K H a (ns.map .int)) (hl : ns.length ≤ 63)
    (k : ∀ h l σ' H1, Ex H H1 → HandOk h l H1 → SD (hB h l) H1 σ' (none :: some (isP (.ref h)) :: List.replicate n none) → D.nx σ' H1) : tAsg (tCall (spHand K) [] E (tCons (tVar 0) tNil)) (gName 1) D (start N [.ref a]) H := by
  have e0 : start N [.ref a] = some (.ref a) :: List.replicate (n + 1) none := by
    unfold L2.start
    rw [hN]; rfl
  refine ⟨.ref a, by rw [e0]; rfl, a, ns, rfl, hS, hl, fun h l H1 e1 hk nh nl => ?_⟩
  refine k h l _ H1 e1 hk ⟨hk.bok, ?_, fun i p e => ?_⟩
  · rw [e0]
    simp
  · match i, e with
    | 0, e => cases e
    | 1, e => cases e; exact ⟨inferInstance, .ref h, by rw [e0]; rfl, rfl⟩
    | i + 2, e =>
      have e' : (List.replicate n (none : Option PV))[i]? = some (some p) := e
      rw [List.getElem?_replicate] at e'
      split at e' <;> cases e'
/-- what a law promises -/
def spLaw (K : PySem.W.Frag) : Sp := fun vs H Q _ => ∃ (a : Addr) (ns : List Int), vs = [.ref a] ∧ SqL K H a (ns.map .int) ∧ ns.length ≤ 63 ∧ ∀ H', Q (.bl true) H'
end EL

set_option Elab.async false
set_option linter.all false
set_option maxRecDepth 100000
set_option maxHeartbeats 4000000
set_option autoImplicit false
namespace EL
open PySem PySem.Spec PyProof.Rows L2
/-! ### words without end as sequences -/
abbrev sq (b r : List Int) : Nat → Int := fun n => letterAt b r (n : Int)
def Per (f : Nat → Int) (n p : Nat) : Prop := ∀ i, n ≤ i → f (i + p) = f i
structure Canon (f : Nat → Int) (a p : Nat) : Prop where
  pos : 1 ≤ p
  per : Per f a p
  minp : ∀ q n, 1 ≤ q → Per f n q → p ≤ q
  mina : ∀ n, Per f n p → a ≤ n
def seg (f : Nat → Int) (a p : Nat) : List Int := (List.range p).map fun i => f (a + i)
theorem least {P : Nat → Prop} (h : ∃ n, P n) : ∃ n, P n ∧ ∀ m, P m → n ≤ m := by
  obtain ⟨n, hn⟩ := h
  induction n using Nat.strongRecOn with
  | _ n ih =>
    rcases Classical.em (∃ m, m < n ∧ P m) with ⟨m, hm, pm⟩ | z
    · exact ih m hm pm
    · exact ⟨n, hn, fun m pm => Nat.le_of_not_lt fun q => z ⟨m, q, pm⟩⟩
theorem Canon.uniq {f : Nat → Int} {a p a' p' : Nat} (h : Canon f a p) (h' : Canon f a' p') : a = a' ∧ p = p' := by
  have e : p = p' := Nat.le_antisymm (h.minp _ _ h'.pos h'.per) (h'.minp _ _ h.pos h.per)
  subst e
  exact ⟨Nat.le_antisymm (h.mina _ h'.per) (h'.mina _ h.per), rfl⟩
theorem Canon.ex {f : Nat → Int} {n q : Nat} (hq : 1 ≤ q) (h : Per f n q) : ∃ a p, Canon f a p := by
  obtain ⟨p, ⟨p1, m, pm⟩, hp⟩ := least (P := fun p => 1 ≤ p ∧ ∃ m, Per f m p) ⟨q, hq, n, h⟩
  obtain ⟨a, pa, ha⟩ := least (P := fun a => Per f a p) ⟨m, pm⟩
  exact ⟨a, p, p1, pa, fun q n q1 pq => hp q ⟨q1, n, pq⟩, ha⟩
noncomputable def told (f : Nat → Int) : List Int × List Int := by
  classical exact if h : ∃ ap : Nat × Nat, Canon f ap.1 ap.2 then (seg f 0 (Classical.choose h).1, seg f (Classical.choose h).1 (Classical.choose h).2) else ([], [])
theorem told_eq {f : Nat → Int} {a p : Nat} (h : Canon f a p) : told f = (seg f 0 a, seg f a p) := by
  have hx : ∃ ap : Nat × Nat, Canon f ap.1 ap.2 := ⟨(a, p), h⟩
  have := (Classical.choose_spec hx).uniq h
  unfold told
  rw [dif_pos hx, this.1, this.2]
theorem Per.mul {f : Nat → Int} {n p : Nat} (h : Per f n p) (k : Nat) : Per f n (p * k) := by
  induction k with
  | zero => intro i _; rfl
  | succ k ih => intro i hi; rw [Nat.mul_succ, ← Nat.add_assoc, h _ (by omega), ih i hi]
theorem Per.up {f : Nat → Int} {n m p : Nat} (h : Per f n p) (hm : n ≤ m) : Per f m p := fun i hi => h i (by omega)
/-- a period from later on is one from where any is -/
theorem Per.down {f : Nat → Int} {n m p q : Nat} (h : Per f n p) (hp : 1 ≤ p) (g : Per f m q) : Per f n q := fun i hi => by
  have e1 := h.mul m i hi
  have e2 := h.mul m (i + q) (by omega)
  have e3 := g (i + p * m) (by have : m ≤ p * m := Nat.le_mul_of_pos_left m hp; omega)
  rw [← e2, ← e1, ← e3]
  congr 1
  omega
theorem Canon.dvd {f : Nat → Int} {a p n q : Nat} (h : Canon f a p) (hq : 1 ≤ q) (g : Per f n q) : q % p = 0 := by
  rcases Nat.eq_zero_or_pos (q % p) with z | z
  · exact z
  · have := h.minp (q % p) (max a n) z (fun i hi => by
      have e1 := h.per.mul (q / p) (i + q % p) (by omega)
      have e2 := g i (by omega)
      rw [← e1, ← e2]
      congr 1
      have := Nat.mod_add_div q p
      omega)
    have := Nat.mod_lt q (show 0 < p from h.pos)
    omega
theorem seg_len (f : Nat → Int) (a p : Nat) : (seg f a p).length = p := by unfold seg; rw [List.length_map, List.length_range]
theorem seg_get {f : Nat → Int} {a p i : Nat} (h : i < p) : (seg f a p).getD i 0 = f (a + i) := by
  unfold seg
  rw [List.getD_eq_getElem?_getD, List.getElem?_map, List.getElem?_range h]
  rfl
theorem getD_ext {xs ys : List Int} (hl : xs.length = ys.length) (h : ∀ i, i < xs.length → xs.getD i 0 = ys.getD i 0) : xs = ys := by
  refine List.ext_getElem hl fun i h1 h2 => ?_
  have := h i h1
  rw [List.getD_eq_getElem?_getD, List.getD_eq_getElem?_getD, List.getElem?_eq_getElem h1, List.getElem?_eq_getElem h2] at this
  exact this
theorem sq_lt {b r : List Int} {n : Nat} (h : n < b.length) : sq b r n = b.getD n 0 := by
  show letterAt b r n = _
  unfold letterAt
  rw [if_pos (by omega), Int.toNat_natCast]
theorem sq_ge {b r : List Int} {n : Nat} (h : b.length ≤ n) : sq b r n = r.getD ((n - b.length) % r.length) 0 := by
  show letterAt b r n = _
  unfold letterAt
  rw [if_neg (by omega), show ((n : Int) - b.length) = ((n - b.length : Nat) : Int) by omega, ← Int.natCast_emod, Int.toNat_natCast]
theorem sq_per {b r : List Int} (n : Nat) (h : b.length ≤ n) : Per (sq b r) n r.length := fun i hi => by
  rw [sq_ge (by omega), sq_ge (by omega), show i + r.length - b.length = (i - b.length) + r.length by omega, Nat.add_mod_right]
theorem sq_seg0 (b r : List Int) : seg (sq b r) 0 b.length = b := getD_ext (seg_len _ _ _) fun i hi => by
  rw [seg_len] at hi
  rw [seg_get hi, Nat.zero_add, sq_lt hi]
theorem sq_seg1 (b r : List Int) : seg (sq b r) b.length r.length = r := getD_ext (seg_len _ _ _) fun i hi => by
  rw [seg_len] at hi
  rw [seg_get hi, sq_ge (by omega), Nat.add_sub_cancel_left, Nat.mod_eq_of_lt hi]
theorem sq_tail {b r : List Int} (i : Nat) : sq b r (b.length + i) = sq [] r i := by
  rw [sq_ge (by omega), sq_ge (Nat.zero_le _), Nat.add_sub_cancel_left]
  rfl
theorem nil_ge {r : List Int} (i : Nat) : sq [] r i = r.getD (i % r.length) 0 := by rw [sq_ge (Nat.zero_le _)]; rfl
/-! ### the shortest round -/
theorem rep_len {α : Type} (x : List α) (k : Nat) : (List.replicate k x).flatten.length = k * x.length := by
  induction k with
  | zero => simp
  | succ k ih => rw [List.replicate_succ, List.flatten_cons, List.length_append, ih, Nat.succ_mul, Nat.add_comm]
theorem rep_get {x : List Int} : ∀ {k i : Nat}, i < k * x.length → (List.replicate k x).flatten.getD i 0 = x.getD (i % x.length) 0
  | 0, i, h => by omega
  | k + 1, i, h => by
    rw [List.replicate_succ, List.flatten_cons, List.getD_eq_getElem?_getD]
    by_cases z : i < x.length
    · rw [List.getElem?_append_left z, Nat.mod_eq_of_lt z, ← List.getD_eq_getElem?_getD]
    · rw [Nat.succ_mul] at h
      have := rep_get (x := x) (k := k) (i := i - x.length) (by omega)
      rw [List.getElem?_append_right (by omega), ← List.getD_eq_getElem?_getD, this]
      congr 1
      have e : i = (i - x.length) + x.length := by omega
      conv => rhs; rw [e]
      rw [Nat.add_mod_right]
theorem rep_iff {r : List Int} {s : Nat} (hs : 1 ≤ s) (hl : s ≤ r.length) (hd : r.length % s = 0) : (List.replicate (r.length / s) (r.take s)).flatten = r ↔ Per (sq [] r) 0 s := by
  have tl : (r.take s).length = s := by rw [List.length_take]; omega
  have ml : r.length / s * s = r.length := Nat.div_mul_cancel (Nat.dvd_of_mod_eq_zero hd)
  have tg : ∀ j, j < s → (r.take s).getD j 0 = r.getD j 0 := fun j hj => by
    rw [List.getD_eq_getElem?_getD, List.getElem?_take_of_lt hj, List.getD_eq_getElem?_getD]
  constructor
  · intro e i _
    have at_ : ∀ j, j < r.length → r.getD j 0 = r.getD (j % s) 0 := fun j hj => by
      have := rep_get (x := r.take s) (k := r.length / s) (i := j) (by rw [tl, ml]; exact hj)
      rw [e, tl, tg _ (Nat.mod_lt _ hs)] at this
      exact this
    have hp : 0 < r.length := by omega
    rw [nil_ge, nil_ge, at_ _ (Nat.mod_lt _ hp), at_ (i % r.length) (Nat.mod_lt _ hp)]
    have dv : s ∣ r.length := Nat.dvd_of_mod_eq_zero hd
    rw [Nat.mod_mod_of_dvd _ dv, Nat.mod_mod_of_dvd _ dv, Nat.add_mod_right]
  · intro h
    refine getD_ext (by rw [rep_len, tl, ml]) fun i hi => ?_
    rw [rep_len, tl, ml] at hi
    rw [rep_get (by rw [tl, ml]; exact hi), tl, tg _ (Nat.mod_lt _ hs)]
    have e := h.mul (i / s) (i % s) (Nat.zero_le _)
    have ei : i % s + s * (i / s) = i := Nat.mod_add_div i s
    have l1 : i % s < r.length := Nat.lt_of_lt_of_le (Nat.mod_lt _ hs) hl
    rw [ei, nil_ge, nil_ge, Nat.mod_eq_of_lt hi, Nat.mod_eq_of_lt l1] at e
    exact e.symm
/-- what shortest_round tells -/
structure Short (r r0 : List Int) : Prop where
  ne : r0 ≠ []
  le : r0.length ≤ r.length
  same : sq [] r0 = sq [] r
  minp : ∀ q n, 1 ≤ q → Per (sq [] r) n q → r0.length ≤ q
theorem short_of {r : List Int} {s : Nat} (hr : r ≠ []) (hs : 1 ≤ s) (hl : s ≤ r.length) (hp : Per (sq [] r) 0 s) (hm : ∀ q, 1 ≤ q → q < s → r.length % q = 0 → ¬ Per (sq [] r) 0 q) : Short r (r.take s) := by
  have tl : (r.take s).length = s := by rw [List.length_take]; omega
  have rp : 1 ≤ r.length := List.length_pos_iff.mpr hr
  refine ⟨fun e => by rw [e] at tl; simp at tl; omega, by rw [tl]; exact hl, funext fun i => ?_, fun q n hq hpq => ?_⟩
  · rw [nil_ge, tl, List.getD_eq_getElem?_getD, List.getElem?_take_of_lt (Nat.mod_lt _ hs), ← List.getD_eq_getElem?_getD]
    have e := hp.mul (i / s) (i % s) (Nat.zero_le _)
    rw [Nat.mod_add_div i s] at e
    rw [e, nil_ge, Nat.mod_eq_of_lt (Nat.lt_of_lt_of_le (Nat.mod_lt _ hs) hl)]
  · rw [tl]
    obtain ⟨a, p, hc⟩ := Canon.ex hq hpq
    have pl : Per (sq [] r) 0 r.length := sq_per 0 (Nat.zero_le _)
    have p0 : Per (sq [] r) 0 p := pl.down rp hc.per
    have pd : r.length % p = 0 := hc.dvd rp pl
    have sp : s ≤ p := Nat.le_of_not_lt fun z => hm p hc.pos z pd p0
    exact Nat.le_trans sp (hc.minp q n hq hpq)
theorem short_self {r : List Int} (hr : r ≠ []) (hm : ∀ q, 1 ≤ q → q < r.length → r.length % q = 0 → ¬ Per (sq [] r) 0 q) : Short r r := by
  have := short_of hr (List.length_pos_iff.mpr hr) (Nat.le_refl _) (sq_per 0 (Nat.zero_le _)) hm
  rwa [List.take_length] at this
theorem sq_short {b r r0 : List Int} (h : Short r r0) : sq b r0 = sq b r := funext fun n => by
  by_cases z : n < b.length
  · rw [sq_lt z, sq_lt z]
  · have e : n = b.length + (n - b.length) := by omega
    rw [e, sq_tail, sq_tail, h.same]
/-! ### turning the round back -/
theorem rot_step (c d : List Int) (x : Int) : sq c (x :: d) = sq (c ++ [x]) (d ++ [x]) := funext fun n => by
  have l1 : (c ++ [x]).length = c.length + 1 := by rw [List.length_append]; rfl
  have l2 : (d ++ [x]).length = d.length + 1 := by rw [List.length_append]; rfl
  by_cases z : n < c.length
  · rw [sq_lt z, sq_lt (by omega), List.getD_eq_getElem?_getD, List.getD_eq_getElem?_getD, List.getElem?_append_left z]
  · by_cases z2 : n = c.length
    · subst z2
      rw [sq_ge (Nat.le_refl _), sq_lt (by omega), Nat.sub_self, Nat.zero_mod, List.getD_eq_getElem?_getD, List.getD_eq_getElem?_getD, List.getElem?_append_right (Nat.le_refl _), Nat.sub_self]
      rfl
    · rw [sq_ge (by omega), sq_ge (by omega), l1, l2, List.length_cons]
      have e : n - c.length = (n - (c.length + 1)) + 1 := by omega
      rw [e]
      generalize n - (c.length + 1) = m
      have hm := Nat.mod_lt m (show 0 < d.length + 1 by omega)
      by_cases q : m % (d.length + 1) = d.length
      · have q2 : (m + 1) % (d.length + 1) = 0 := by
          rw [Nat.add_mod, q]
          rcases Nat.eq_zero_or_pos d.length with w | w
          · rw [w]
          · rw [Nat.mod_eq_of_lt (a := 1) (by omega), Nat.mod_self]
        rw [q, q2, List.getD_eq_getElem?_getD, List.getD_eq_getElem?_getD, List.getElem?_append_right (Nat.le_refl _), Nat.sub_self]
        rfl
      · have q2 : (m + 1) % (d.length + 1) = m % (d.length + 1) + 1 := by
          rw [Nat.add_mod, Nat.mod_eq_of_lt (a := 1) (by omega), Nat.mod_eq_of_lt (by omega)]
        rw [q2, List.getD_eq_getElem?_getD, List.getD_eq_getElem?_getD, List.getElem?_append_left (by omega)]
        rfl
theorem told_end {f : Nat → Int} {b r : List Int} (hr : r ≠ []) (hf : sq b r = f) (hm : ∀ q n, 1 ≤ q → Per f n q → r.length ≤ q) (he : ∀ c x, b = c ++ [x] → ∀ d, r ≠ d ++ [x]) : told f = (b, r) := by
  have rp : 1 ≤ r.length := List.length_pos_iff.mpr hr
  have hc : Canon f b.length r.length := by
    refine ⟨rp, hf ▸ sq_per _ (Nat.le_refl _), hm, fun n hn => Nat.le_of_not_lt fun z => ?_⟩
    have hb : b ≠ [] := fun e => by rw [e] at z; exact absurd z (Nat.not_lt_zero _)
    refine he b.dropLast (b.getLast hb) (List.dropLast_concat_getLast hb).symm r.dropLast ?_
    have e := hn (b.length - 1) (by omega)
    rw [← hf, sq_ge (by omega), sq_lt (by omega), show b.length - 1 + r.length - b.length = r.length - 1 by omega, Nat.mod_eq_of_lt (by omega), List.getD_eq_getElem?_getD, List.getD_eq_getElem?_getD, ← List.getLast?_eq_getElem?, ← List.getLast?_eq_getElem?, List.getLast?_eq_getLast hb, List.getLast?_eq_getLast hr] at e
    have e : r.getLast hr = b.getLast hb := e
    rw [← e]
    exact (List.dropLast_concat_getLast hr).symm
  rw [told_eq hc, ← hf, sq_seg0, sq_seg1]
theorem short_min {b r r0 : List Int} (h : Short r r0) : ∀ q n, 1 ≤ q → Per (sq b r) n q → r0.length ≤ q := fun q n hq hp => h.minp q n hq fun i hi => by
  have := hp (b.length + i) (by omega)
  rw [sq_tail] at this
  rw [← this, Nat.add_assoc, sq_tail]
end EL

set_option Elab.async false
set_option linter.all false
set_option maxRecDepth 100000
set_option maxHeartbeats 4000000
set_option autoImplicit false
namespace EL
open PySem PySem.Spec PyProof.Rows L2
/-- a def that only reads: the answer is some data of which C is so -/
def relSp {α β : Type} (K : PySem.W.Frag) (args : α → List PyData) (pre : α → Prop) (C : α → β → Prop) (res : β → PyData) : Sp := fun vs H Q _ =>
  ∃ (B : Bn) (a : α), BOk B H ∧ imAll K B (args a) vs H ∧ pre a ∧ ∀ b v H', C a b → Ex H H' → im K B (res b) v H' → Q v H'
theorem relSp.len {α β : Type} {K : PySem.W.Frag} {args : α → List PyData} {pre : α → Prop} {C : α → β → Prop} {res : β → PyData} {n : Nat} (h : ∀ a, (args a).length = n) {vs : List V} {H : Hp} {Q : VK} {E : XK} (q : relSp K args pre C res vs H Q E) : vs.length = n := by
  obtain ⟨B, a, _, h1, _⟩ := q
  rw [imAll_len h1]; exact h a
/-- a def that uses the hand -/
def handSp {α β : Type} (K : PySem.W.Frag) (args : α → List PyData) (pre : α → Prop) (C : α → β → Prop) (res : β → PyData) : Sp := fun vs H Q _ =>
  ∃ (B : Bn) (h l : Addr) (a : α) (us : List V), Has B h l ∧ BOk B H ∧ HandOk h l H ∧ vs = .ref h :: us ∧ imAll K B (args a) us H ∧ pre a ∧ ∀ b v H', C a b → Rh h l H H' → im K B (res b) v H' → Q v H'
theorem handSp.len {α β : Type} {K : PySem.W.Frag} {args : α → List PyData} {pre : α → Prop} {C : α → β → Prop} {res : β → PyData} {n : Nat} (h : ∀ a, (args a).length = n) {vs : List V} {H : Hp} {Q : VK} {E : XK} (q : handSp K args pre C res vs H Q E) : vs.length = n + 1 := by
  obtain ⟨B, _, _, a, us, _, _, _, rfl, h1, _⟩ := q
  rw [List.length_cons, imAll_len h1, h a]
theorem SD.startH {K : PySem.W.Frag} {B : Bn} {H : Hp} {N : List Str} {ds : List PyData} {us : List V} {h : Addr} (o : BOk B H) (hv : imAll K B ds us H) :
    SD B H (L2.start N (.ref h :: us)) (some (isP (.ref h)) :: (ds.map (fun d => some (im K B d)) ++ List.replicate (N.length - (ds.length + 1)) none)) := by
  have hl := imAll_len hv
  refine ⟨o, ?_, fun i p e => ?_⟩
  · unfold L2.start
    simp only [List.length_append, List.length_map, List.length_replicate, List.length_cons, hl]
    omega
  · cases i with
    | zero =>
      cases e
      exact ⟨inferInstance, .ref h, rfl, rfl⟩
    | succ i =>
      have e : (ds.map (fun d => some (im K B d)) ++ List.replicate (N.length - (ds.length + 1)) none)[i]? = some (some p) := e
      by_cases hi : i < ds.length
      · rw [List.getElem?_append_left (by rw [List.length_map]; exact hi), List.getElem?_map, List.getElem?_eq_getElem hi] at e
        have e2 : im K B ds[i] = p := by simpa using e
        obtain ⟨v, h1, h2⟩ := imAll_get hv (List.getElem?_eq_getElem hi)
        subst e2
        refine ⟨inferInstance, v, ?_, h2⟩
        unfold L2.start
        show ((us.map some ++ List.replicate (N.length - (us.length + 1)) none))[i]? = _
        rw [List.getElem?_append_left (by rw [List.length_map, hl]; exact hi), List.getElem?_map, h1]
        rfl
      · rw [List.getElem?_append_right (by rw [List.length_map]; omega), List.getElem?_replicate] at e
        split at e <;> simp at e
section
variable {R : Hp → Hp → Prop} {B : Bn} [rk : Rok B R] {K : PySem.W.Frag} {δ : List (Option PV)} {H H' : Hp}
theorem ev_callR {α β : Type} {args : α → List PyData} {pre : α → Prop} {C : α → β → Prop} {res : β → PyData} {E : XK} {ta : TA} (a : α) (h : EvA R B ta δ H ((args a).map (im K B))) (hp : pre a) :
    Ev R B (tCall (relSp K args pre C res) [] E ta) δ H (exP (C a) fun b => im K B (res b)) := fun σ H1 r S Q k =>
  h σ H1 r S _ fun vs H2 r2 pr => by
    show relSp K args pre C res (vs ++ []) H2 Q E
    rw [List.append_nil]
    exact ⟨B, a, S.ok.mono (rk.rb r2), imAll_of_pAll pr, hp, fun b v H3 c e3 hv => k v H3 (rk.tr r2 (rk.ex e3)) ⟨b, c, hv⟩⟩
/-- the answer of a call where what is handed in is open -/
theorem ev_callN {α : Type} {args : α → List PyData} {pre : α → Prop} {res : α → PyData} {E : XK} {ta : TA} {ps : List PV} {A : α → Prop} (h : EvA R B ta δ H ps) (hc : ∀ us H1, R H H1 → pAll ps us H1 → ∃ a, A a ∧ imAll K B (args a) us H1) (hp : ∀ a, A a → pre a) :
    Ev R B (tCall (pureSp K args pre res) [] E ta) δ H (exP A fun a => im K B (res a)) := fun σ H1 r S Q k =>
  h σ H1 r S _ fun vs H2 r2 pr => by
    show pureSp K args pre res (vs ++ []) H2 Q E
    rw [List.append_nil]
    obtain ⟨a, ha, hv⟩ := hc vs H2 (rk.tr r r2) pr
    exact ⟨B, a, S.ok.mono (rk.rb r2), hv, hp a ha, fun v H3 e3 hv => k v H3 (rk.tr r2 (rk.ex e3)) ⟨a, ha, hv⟩⟩
/-- *first, last = a tuple -/
theorem st_star {te : TE} {D : Ends} {σ : L2.St} {i j : Nat} {ds : List PyData} {d : PyData} (S : SD B H σ δ) (h : Ev R B te δ H (im K B (.tuple (ds ++ [d])))) (hl : ds.length ≤ 16000)
    (k : ∀ σ' H2, R H H2 → SD B H2 σ' ((δ.set i (some (im K B (.list ds)))).set j (some (im K B d))) → D.nx σ' H2) : tAsg te (gStarLast K i j) D σ H :=
  h σ H (rk.rf H) S _ fun v H2 r2 ⟨a, vs, ev, s, hv⟩ => by
    have ln := imAll_len hv
    rw [List.length_append] at ln
    have hv1 := imAll_take ds.length hv
    have hv2 := imAll_drop ds.length hv
    rw [List.take_left] at hv1
    rw [List.drop_left] at hv2
    obtain ⟨y, rr, e1, hy, e2⟩ := hv2
    cases (show rr = [] from e2)
    have e3 : vs = vs.take ds.length ++ [y] := by rw [← e1, List.take_append_drop]
    rw [e3] at s
    refine ⟨a, _, y, ev, s, by rw [List.length_take]; omega, fun p hp => ?_⟩
    have ex : Ex H2 (upd H2 p (.lst (vs.take ds.length))) := Ex.new hp
    have S3 := (S.mono (rk.rb r2)).mono (RB.of_ex ex)
    exact k _ _ (rk.tr r2 (rk.ex ex)) ((S3.set (p := im K B (.list ds)) ⟨p, _, rfl, not_ban (S.ok.mono (rk.rb r2)) hp, sqL_of upd_same, imAll_st (RB.of_ex ex) _ _ hv1⟩).set (p := im K B d) (im_st (RB.of_ex ex) _ _ hy))
end
section
variable {B : Bn} {h l : Addr} [hs : Has B h l] {K : PySem.W.Frag} {δ : List (Option PV)} {H : Hp} {t0 : TE} {E : XK}
theorem ev_hand {α β : Type} {args : α → List PyData} {pre : α → Prop} {C : α → β → Prop} {res : β → PyData} {ta : TA} {ps : List PV} {A : α → Prop} (hk : HandOk h l H) (h0 : Ev (Rh h l) B t0 δ H (isP (.ref h))) (ha : EvA (Rh h l) B ta δ H ps)
    (hc : ∀ us H1, pAll ps us H1 → ∃ a, A a ∧ imAll K B (args a) us H1) (hp : ∀ a, A a → pre a) :
    Ev (Rh h l) B (tCall (handSp K args pre C res) [] E (tCons t0 ta)) δ H (exP (fun b => ∃ a, A a ∧ C a b) fun b => im K B (res b)) := fun σ H1 r1 S Q k =>
  h0 σ H1 r1 S _ fun x H2 r2 ex => ha σ H2 (Rok.tr B r1 r2) (S.mono (Rok.rb r2)) _ fun us H3 r3 pr => by
    show handSp K args pre C res ((x :: us) ++ []) H3 Q E
    rw [List.append_nil]
    obtain ⟨a, aa, hv⟩ := hc us H3 pr
    exact ⟨B, h, l, a, us, hs, S.ok.mono (Rok.rb (Rok.tr B r2 r3)), r3.ok (r2.ok (r1.ok hk)), by rw [show x = _ from ex], hv, hp a aa, fun b v H4 c r4 hv => k v H4 (Rok.tr B (Rok.tr B r2 r3) r4) ⟨b, ⟨a, aa, c⟩, hv⟩⟩
theorem ev_handI {α β : Type} {args : α → List PyData} {pre : α → Prop} {C : α → β → Prop} {res : β → PyData} {ta : TA} (a : α) (hk : HandOk h l H) (h0 : Ev (Rh h l) B t0 δ H (isP (.ref h))) (ha : EvA (Rh h l) B ta δ H ((args a).map (im K B))) (hp : pre a) :
    Ev (Rh h l) B (tCall (handSp K args pre C res) [] E (tCons t0 ta)) δ H (exP (C a) fun b => im K B (res b)) :=
  (ev_hand (A := (· = a)) hk h0 ha (fun us H1 pr => ⟨a, rfl, imAll_of_pAll pr⟩) fun a' e => e ▸ hp).conv fun v H1 _ ⟨b, ⟨a', e, c⟩, hv⟩ => ⟨b, e ▸ c, hv⟩
end
/-! ### rows of ints -/
theorem shaped_tI (ns : List Int) : SeqAt.shaped (tI ns) = true := by
  unfold SeqAt.shaped
  have h1 := canLayAll_ints ns
  have h2 := depthAll_ints ns
  simp only [PyData.canLay0, h1, PyData.depth, Bool.true_and]
  exact decide_eq_true (by omega)
theorem eqvAll_ints : ∀ xs ys : List Int, PyData.eqvAll (xs.map .int) (ys.map .int) = decide (xs = ys)
  | [], [] => by simp [PyData.eqvAll]
  | [], y :: ys => by simp [PyData.eqvAll]
  | x :: xs, [] => by simp [PyData.eqvAll]
  | x :: xs, y :: ys => by
    simp only [List.map_cons, PyData.eqvAll, PyData.eqv, eqvAll_ints xs ys]
    by_cases h1 : x = y <;> by_cases h2 : xs = ys <;> simp [h1, h2]
theorem eqv_tI (xs ys : List Int) : PyData.eqv (tI xs) (tI ys) = decide (xs = ys) := by
  simp only [PyData.eqv, eqvAll_ints]
theorem shaped_wd (b r : List Int) : SeqAt.shaped (wd b r) = true := by
  unfold SeqAt.shaped
  have h1 := canLayAll_ints b
  have h2 := depthAll_ints b
  have h3 := canLayAll_ints r
  have h4 := depthAll_ints r
  simp only [PyData.canLay0, PyData.canLayAll0, h1, h3, PyData.depth, PyData.depthAll, Bool.true_and, Bool.and_self]
  exact decide_eq_true (by omega)
theorem eqv_wd (b r b' r' : List Int) : PyData.eqv (wd b r) (wd b' r') = decide ((b, r) = (b', r')) := by
  simp only [PyData.eqv, PyData.eqvAll, eqvAll_ints, Bool.and_true]
  by_cases h1 : b = b' <;> by_cases h2 : r = r' <;> simp [h1, h2]
theorem cut_init {α : Type} {xs : List α} {y : α} : cut (xs ++ [y]) none (some (-1)) = xs := by
  unfold cut
  have e : HT.sIx (xs ++ [y]).length (xs ++ [y]).length (some (-1)) = xs.length := by
    show (if (-1 : Int) < 0 then ((-1 : Int) + ((xs ++ [y]).length : Nat)).toNat else min (-1 : Int).toNat (xs ++ [y]).length) = _
    rw [if_pos (by decide), List.length_append]
    simp only [List.length_cons, List.length_nil]
    omega
  rw [e, HT.sIx_none, List.drop_zero, Nat.sub_zero, List.take_left]
theorem atI_lastI {c : List Int} {x : Int} : atI ((c ++ [x]).map PyData.int) (-1) = some (.int x) := by
  rw [List.map_append]
  exact atI_last _ _
theorem ev_slI {R : Hp → Hp → Prop} {B : Bn} [rk : Rok B R] {K : PySem.W.Frag} {δ : List (Option PV)} {H : Hp} {te : TE} {tl th : TO} {lo hi : Option Int} {ns ms : List Int} (h : Ev R B te δ H (im K B (tI ns))) (h1 : EvO R B tl δ H lo) (h2 : EvO R B th δ H hi)
    (e : cut ns lo hi = ms) : Ev R B (tSl (rSlU K) te tl th) δ H (im K B (tI ms)) := (ev_slT h h1 h2).is (by
  subst e
  show im K B (.tuple (cut (ns.map PyData.int) lo hi)) = im K B (.tuple ((cut ns lo hi).map PyData.int))
  congr 2
  unfold cut
  rw [List.length_map, List.map_take, List.map_drop])
theorem ev_repI {R : Hp → Hp → Prop} {B : Bn} [rk : Rok B R] {K : PySem.W.Frag} {δ : List (Option PV)} {H : Hp} {ta tb : TE} {ns ms : List Int} {k : Int} (ha : Ev R B ta δ H (im K B (tI ns))) (hb : Ev R B tb δ H (im K B (.int k))) (h0 : 0 ≤ k) (h1 : k ≤ 1000) (hl : ns.length ≤ 1000)
    (e : (List.replicate k.toNat ns).flatten = ms) : Ev R B (tOp (rMulU K) ta tb) δ H (im K B (tI ms)) := (ev_rep ha hb h0 h1 (by rw [List.length_map]; exact hl)).is (by
  subst e
  show im K B (.tuple _) = im K B (.tuple ((List.replicate k.toNat ns).flatten.map PyData.int))
  congr 2
  rw [List.map_flatten, List.map_replicate])
theorem ev_catI {R : Hp → Hp → Prop} {B : Bn} [rk : Rok B R] {K : PySem.W.Frag} {δ : List (Option PV)} {H : Hp} {ta tb : TE} {ns ms : List Int} (ha : Ev R B ta δ H (im K B (tI ns))) (hb : Ev R B tb δ H (im K B (tI ms))) (hl : ns.length + ms.length ≤ 1000000) : Ev R B (tOp (rAddU K) ta tb) δ H (im K B (tI (ns ++ ms))) :=
  (ev_catT ha hb (by rw [List.length_map, List.length_map]; exact Nat.le_trans hl (by decide))).is (by rw [← List.map_append])
theorem ev_lenI {R : Hp → Hp → Prop} {B : Bn} [rk : Rok B R] {K : PySem.W.Frag} {δ : List (Option PV)} {H : Hp} {ta : TE} {ns : List Int} (ha : Ev R B ta δ H (im K B (tI ns))) : Ev R B (tCB (rLenQ K) (tCons ta tNil)) δ H (im K B (.int ns.length)) := (ev_lenT ha).is (by rw [List.length_map])
end EL

set_option Elab.async false
set_option linter.all false
set_option maxRecDepth 100000
set_option maxHeartbeats 4000000
set_option autoImplicit false
namespace EL
open PySem PySem.Spec PyProof.Rows L2
/-! ### the rules with the written part by its name -/
section
variable {X : Cx} (K : PySem.W.Frag)
theorem op_addK (h : X.K = K := by rfl) : OpR X (binaryOp .Add) (rAddU K) := h ▸ op_addU
theorem op_mulK (h : X.K = K := by rfl) : OpR X (binaryOp .Mult) (rMulU K) := h ▸ op_mulU
theorem op_eqK (hu : X.A.units + 64 < cLine) (h : X.K = K := by rfl) : OpR X (compareOp .Eq) (rEqU K) := h ▸ op_eqU hu
theorem op_neK (hu : X.A.units + 64 < cLine) (h : X.K = K := by rfl) : OpR X (compareOp .NotEq) (rNeU K) := h ▸ op_neU hu
theorem sl_seqK (h : X.K = K := by rfl) : SlR X (rSlU K) := h ▸ sl_seqU
theorem ix_seqK (h : X.K = K := by rfl) : IxR X (rIx K) := h ▸ ix_seq
theorem op_inK (h : X.K = K := by rfl) : OpR X (compareOp .In) (rIn K false) := h ▸ op_in_seq
theorem op_notInK (h : X.K = K := by rfl) : OpR X (compareOp .NotIn) (rIn K true) := h ▸ op_notIn_seq
theorem call_lenK (h : X.K = K := by rfl) : CallR X (.builtin "len") (rLenQ K) := h ▸ call_len_seq
theorem call_tupleK (h : X.K = K := by rfl) : CallR X (.type "tuple") (rTupQ K) := h ▸ call_tuple_of
theorem call_listK (h : X.K = K := by rfl) : CallR X (.type "list") (rListQ K) := h ▸ call_list_of
theorem call_isiK (h : X.K = K := by rfl) : CallR X (.builtin "isinstance") (rIsi K) := h ▸ call_isi
theorem call_reprK (gd : X.A.guards = some []) (hu : X.A.units + 66 < cLine) (h : X.K = K := by rfl) : CallR X (.builtin "repr") (rReprD K) := h ▸ call_reprD gd hu
theorem cr_anyK (hc : X.calm = true) (h : X.K = K := by rfl) : CallR X (.builtin "any") (rAny K) := h ▸ cr_any hc
theorem cr_allK (hc : X.calm = true) (h : X.K = K := by rfl) : CallR X (.builtin "all") (rAll K) := h ▸ cr_all hc
theorem pi_seqK {tg l : Expr} {t : TE} (e : PE X l t) (h : X.K = K := by rfl) : PI X tg l (iSeqU K t) := h ▸ pi_seqU e
theorem pi_listK {tg l : Expr} {t : TE} (e : PE X l t) (h : X.K = K := by rfl) : PI X tg l (iList K t) := h ▸ pi_list e
end
section
variable {R : Hp → Hp → Prop} {B : Bn} [rk : Rok B R] {K : PySem.W.Frag} {δ : List (Option PV)} {H : Hp} {ta tb te : TE} {tt tu : TT} {D : Ends} {σ : L2.St} {t u : TS}
theorem ev_any {bs : List Bool} (ha : Ev R B ta δ H (im K B (.list (bs.map .bool)))) : Ev R B (tCB (rAny K) (tCons ta tNil)) δ H (im K B (.bool (bs.any id))) :=
  ev_cb (ea_cons ha ea_nil) fun vs H1 _ _ ⟨v, r, e, ⟨a, xs, e1, _, s, h⟩, e2⟩ Q k => by
    subst e e1; cases (show r = [] from e2)
    rw [imAll_bools.mp h] at s
    exact ⟨a, bs, rfl, s, k _ H1 (rk.rf H1) rfl⟩
theorem ev_all {bs : List Bool} (ha : Ev R B ta δ H (im K B (.list (bs.map .bool)))) : Ev R B (tCB (rAll K) (tCons ta tNil)) δ H (im K B (.bool (bs.all id))) :=
  ev_cb (ea_cons ha ea_nil) fun vs H1 _ _ ⟨v, r, e, ⟨a, xs, e1, _, s, h⟩, e2⟩ Q k => by
    subst e e1; cases (show r = [] from e2)
    rw [imAll_bools.mp h] at s
    exact ⟨a, bs, rfl, s, k _ H1 (rk.rf H1) rfl⟩
/-- tests whose answer is open -/
theorem st_ifx {C : Bool → Prop} (S : SD B H σ δ) (h : EvTx R B tt δ H C) (k1 : C true → ∀ H2, R H H2 → SD B H2 σ δ → t D σ H2) (k2 : C false → ∀ H2, R H H2 → SD B H2 σ δ → u D σ H2) : tIfS tt t u D σ H :=
  h σ H (rk.rf H) S _ fun b H2 c r2 => by
    cases b with
    | true => exact k1 c H2 r2 (S.mono (rk.rb r2))
    | false => exact k2 c H2 r2 (S.mono (rk.rb r2))
theorem etx_and {C1 C2 : Bool → Prop} (h1 : EvTx R B tt δ H C1) (h2 : C1 true → ∀ H1, R H H1 → EvTx R B tu δ H1 C2) : EvTx R B (tAnd tt tu) δ H (fun b => (b = false ∧ C1 false) ∨ (C1 true ∧ C2 b)) := fun σ H1 r S Q k => h1 σ H1 r S _ fun a H2 c r2 => by
  cases a with
  | true => exact h2 c H2 (rk.tr r r2) σ H2 (rk.rf H2) (S.mono (rk.rb r2)) Q fun b H3 c3 r3 => k b H3 (.inr ⟨c, c3⟩) (rk.tr r2 r3)
  | false => exact k false H2 (.inl ⟨rfl, c⟩) r2
theorem etx_or {C1 C2 : Bool → Prop} (h1 : EvTx R B tt δ H C1) (h2 : C1 false → ∀ H1, R H H1 → EvTx R B tu δ H1 C2) : EvTx R B (tOr tt tu) δ H (fun b => (b = true ∧ C1 true) ∨ (C1 false ∧ C2 b)) := fun σ H1 r S Q k => h1 σ H1 r S _ fun a H2 c r2 => by
  cases a with
  | true => exact k true H2 (.inl ⟨rfl, c⟩) r2
  | false => exact h2 c H2 (rk.tr r r2) σ H2 (rk.rf H2) (S.mono (rk.rb r2)) Q fun b H3 c3 r3 => k b H3 (.inr ⟨c, c3⟩) (rk.tr r2 r3)
theorem etx_not {C : Bool → Prop} (h : EvTx R B tt δ H C) : EvTx R B (tNot tt) δ H (fun b => C (!b)) := fun σ H1 r S Q k => h σ H1 r S _ fun b H2 c r2 => k (!b) H2 (by show C (!!b); rw [Bool.not_not]; exact c) r2
theorem etx_B {C : Bool → Prop} (h : Ev R B te δ H (exP C fun b => im K B (.bool b))) : EvTx R B (tB te) δ H C := fun σ H1 r S Q k => h σ H1 r S _ fun v H2 r2 ⟨b, c, e⟩ => ⟨b, e, k b H2 c r2⟩
theorem etx_test {C : Bool → Prop} (h : Ev R B te δ H (exP C fun b => im K B (.bool b))) : EvTx R B (tTest te) δ H C := fun σ H1 r S Q k => h σ H1 r S _ fun v H2 r2 ⟨b, c, e⟩ => ⟨b, e, k b H2 c r2⟩
theorem EvTx.conv {C C' : Bool → Prop} (h : EvTx R B tt δ H C) (c : ∀ b, C b → C' b) : EvTx R B tt δ H C' := fun σ H1 r S Q k => h σ H1 r S Q fun b H2 z r2 => k b H2 (c b z) r2
theorem EvTx.at_ {C : Bool → Prop} {H' : Hp} (h : EvTx R B tt δ H C) (r : R H H') : EvTx R B tt δ H' C := fun σ H2 r2 => h σ H2 (rk.tr r r2)
theorem ev_eqN {C : Int → Prop} {j : Int} (ha : Ev R B ta δ H (intP C)) (hb : Ev R B tb δ H (im K B (.int j))) : Ev R B (tOp (rEqU K) ta tb) δ H (exP (fun b => ∃ i, C i ∧ b = decide (i = j)) fun b => im K B (.bool b)) :=
  ev_op ha hb fun x y H1 _ _ ⟨i, c, hx⟩ hy Q k => .inr ⟨by rw [hx, show y = _ from hy]; rfl, k _ H1 (Ex.refl H1) ⟨decide (i = j), ⟨i, c, rfl⟩, by rw [hx, show y = _ from hy]; show V.bl _ = V.bl _; congr 1; by_cases z : i = j <;> simp [z]⟩⟩
/-- list comprehensions that tell just one list -/
theorem ev_lcMap [rm : Rmk R] {wi : TI} {v n : Nat} {Y : Nat → PV} [∀ i, Stb B (Y i)] (f : Nat → PyData) (hs : Src R B wi δ H n Y) (hn : n ≤ sizeLine) (hp : ∀ i, i < n → plain (f i) = true)
    (he : ∀ i Hc, i < n → R H Hc → Ev R B te ((δ.set v none).set v (some (Y i))) Hc (im K B (f i))) : Ev R B (tLc wi (gName v) tYes te [v]) δ H (im K B (.list ((List.range n).map f))) :=
  (ev_lc (K := K) (fun i ds => ds = (List.range i).map f) hs hn rfl fun i ds Hc hi e r => ⟨_, etx_yes, (fun z => Bool.noConfusion z), fun _ Hd rd => ⟨_, ev_one (he i Hd hi (rk.tr r rd)), fun d ed => ⟨by rw [ed]; exact hp i hi, by rw [e, ed, List.range_succ, List.map_append]; rfl⟩⟩⟩).conv
    fun v H1 _ ⟨ds, e, hv⟩ => e ▸ hv
theorem ev_lcFilter [rm : Rmk R] {wi : TI} {v n : Nat} {Y : Nat → PV} [∀ i, Stb B (Y i)] (f : Nat → PyData) (p : Nat → Bool) (hs : Src R B wi δ H n Y) (hn : n ≤ sizeLine) (hp : ∀ i, i < n → plain (f i) = true)
    (ht : ∀ i Hc, i < n → R H Hc → EvT R B tt ((δ.set v none).set v (some (Y i))) Hc (p i)) (he : ∀ i Hc, i < n → p i = true → R H Hc → Ev R B te ((δ.set v none).set v (some (Y i))) Hc (im K B (f i))) : Ev R B (tLc wi (gName v) tt te [v]) δ H (im K B (.list (((List.range n).filter p).map f))) :=
  (ev_lc (K := K) (fun i ds => ds = ((List.range i).filter p).map f) hs hn rfl fun i ds Hc hi e r => ⟨_, etx_of (ht i Hc hi r), fun z => by rw [e, List.range_succ, List.filter_append, List.map_append]; simp [z.symm], fun z Hd rd => ⟨_, ev_one (he i Hd hi z.symm (rk.tr r rd)), fun d ed => ⟨by rw [ed]; exact hp i hi, by rw [e, ed, List.range_succ, List.filter_append, List.map_append]; simp [z.symm]⟩⟩⟩).conv
    fun v H1 _ ⟨ds, e, hv⟩ => e ▸ hv
theorem ev_slLI {tl th : TO} {lo hi : Option Int} {ns ms : List Int} (h : Ev R B te δ H (im K B (.list (ns.map .int)))) (h1 : EvO R B tl δ H lo) (h2 : EvO R B th δ H hi) (e : cut ns lo hi = ms) : Ev R B (tSl (rSlU K) te tl th) δ H (im K B (.list (ms.map .int))) := (ev_slL h h1 h2).is (by
  subst e
  congr 2
  unfold cut
  rw [List.length_map, List.map_take, List.map_drop])
end
theorem cut_mid {α : Type} {xs : List α} {n m : Nat} : cut xs (some (n : Int)) (some (m : Int)) = (xs.drop n).take (m - n) := by
  unfold cut
  rw [HT.sIx_nat, HT.sIx_nat]
  rcases Nat.le_total n xs.length with h | h
  · rw [Nat.min_eq_left h]
    rcases Nat.le_total m xs.length with h2 | h2
    · rw [Nat.min_eq_left h2]
    · rw [Nat.min_eq_right h2, List.take_of_length_le (by rw [List.length_drop]; omega), List.take_of_length_le (by rw [List.length_drop]; omega)]
  · rw [Nat.min_eq_right h, List.drop_of_length_le h, List.drop_of_length_le (Nat.le_refl _), List.take_nil, List.take_nil]
theorem map_int_range (f : Nat → Int) (n : Nat) : (List.range n).map (fun i => PyData.int (f i)) = (seg f 0 n).map .int := by
  unfold seg
  rw [List.map_map]
  congr 1
  funext i
  show PyData.int (f i) = PyData.int (f (0 + i))
  rw [Nat.zero_add]
theorem seg_take {f : Nat → Int} {a p n : Nat} (h : n ≤ p) : (seg f a p).take n = seg f a n := by
  unfold seg
  rw [← List.map_take, List.take_range, Nat.min_eq_left h]
theorem seg_drop {f : Nat → Int} {a p n : Nat} : (seg f a p).drop n = seg f (a + n) (p - n) := getD_ext (by rw [List.length_drop, seg_len, seg_len]) fun i hi => by
  rw [List.length_drop, seg_len] at hi
  rw [seg_get (by omega), List.getD_eq_getElem?_getD, List.getElem?_drop, ← List.getD_eq_getElem?_getD, seg_get (by omega), Nat.add_assoc]
/-- a period tells the sequence -/
theorem sq_of_per {f : Nat → Int} {n p : Nat} (hp : 1 ≤ p) (h : Per f n p) : sq (seg f 0 n) (seg f n p) = f := funext fun i => by
  by_cases z : i < n
  · rw [sq_lt (by rw [seg_len]; exact z), seg_get z, Nat.zero_add]
  · rw [sq_ge (by rw [seg_len]; omega), seg_len, seg_len, seg_get (Nat.mod_lt _ hp)]
    have := h.mul ((i - n) / p) (n + (i - n) % p) (by omega)
    rw [← this]
    congr 1
    have := Nat.mod_add_div (i - n) p
    omega
theorem told_len {b r : List Int} (hr : r ≠ []) : (told (sq b r)).1.length ≤ b.length ∧ (told (sq b r)).2.length ≤ r.length ∧ (told (sq b r)).2 ≠ [] := by
  have rp : 1 ≤ r.length := List.length_pos_iff.mpr hr
  obtain ⟨a, p, hc⟩ := Canon.ex rp (sq_per (b := b) (r := r) b.length (Nat.le_refl _))
  rw [told_eq hc, seg_len, seg_len]
  refine ⟨hc.mina _ ((sq_per b.length (Nat.le_refl _)).down rp hc.per), hc.minp _ _ rp (sq_per b.length (Nat.le_refl _)), fun e => ?_⟩
  have := congrArg List.length e
  rw [seg_len] at this
  have := hc.pos
  simp at *
  omega
theorem told_mem {b r : List Int} (hr : r ≠ []) {P : Int → Prop} (hb : ∀ x ∈ b, P x) (h2 : ∀ x ∈ r, P x) : (∀ x ∈ (told (sq b r)).1, P x) ∧ ∀ x ∈ (told (sq b r)).2, P x := by
  have rp : 1 ≤ r.length := List.length_pos_iff.mpr hr
  have all : ∀ i, P (sq b r i) := fun i => by
    by_cases z : i < b.length
    · rw [sq_lt z, List.getD_eq_getElem?_getD, List.getElem?_eq_getElem z]
      exact hb _ (List.getElem_mem z)
    · rw [sq_ge (by omega)]
      have hm := Nat.mod_lt (i - b.length) rp
      rw [List.getD_eq_getElem?_getD, List.getElem?_eq_getElem hm]
      exact h2 _ (List.getElem_mem hm)
  obtain ⟨a, p, hc⟩ := Canon.ex rp (sq_per (b := b) (r := r) b.length (Nat.le_refl _))
  rw [told_eq hc]
  constructor
  all_goals
    intro x hx
    unfold seg at hx
    obtain ⟨i, _, rfl⟩ := List.mem_map.mp hx
    exact all _
theorem sq_told {b r : List Int} (hr : r ≠ []) : sq (told (sq b r)).1 (told (sq b r)).2 = sq b r := by
  have rp : 1 ≤ r.length := List.length_pos_iff.mpr hr
  obtain ⟨a, p, hc⟩ := Canon.ex rp (sq_per (b := b) (r := r) b.length (Nat.le_refl _))
  rw [told_eq hc]
  exact sq_of_per hc.pos hc.per
end EL

set_option Elab.async false
set_option linter.all false
set_option maxRecDepth 100000
set_option maxHeartbeats 4000000
set_option autoImplicit false
namespace EL
open PySem PySem.Spec PyProof.Rows L2
/-! ### a statement and what follows -/
section
variable {R : Hp → Hp → Prop} {B : Bn} [rk : Rok B R] {K : PySem.W.Frag} {δ : List (Option PV)} {H H' : Hp} {to ti te : TE} {p q w : PV} {tt : TT} {D : Ends} {σ : L2.St} {t u e : TS} {i j l : Nat}
theorem sq_set [Stb B p] (S : SD B H σ δ) (h : Ev R B te δ H p) (k : ∀ σ' H2, R H H2 → SD B H2 σ' (δ.set i (some p)) → u D σ' H2) : tSeq (tAsg te (gName i)) u D σ H := st_seq (st_set S h k)
theorem sq_setx {α : Type} {C : α → Prop} {q : α → PV} [∀ a, Stb B (q a)] (S : SD B H σ δ) (h : Ev R B te δ H (exP C q)) (k : ∀ a σ' H2, C a → R H H2 → SD B H2 σ' (δ.set i (some (q a))) → u D σ' H2) : tSeq (tAsg te (gName i)) u D σ H := st_seq (st_setx S h k)
theorem sq_par {ta : TA} [Stb B p] [Stb B q] (S : SD B H σ δ) (h : EvA R B ta δ H [p, q]) (k : ∀ σ' H2, R H H2 → SD B H2 σ' ((δ.set i (some p)).set j (some q)) → u D σ' H2) : tSeq (tPar i j ta) u D σ H := st_seq (st_par S h k)
theorem sq_par3 {ta : TA} [Stb B p] [Stb B q] [Stb B w] (S : SD B H σ δ) (h : EvA R B ta δ H [p, q, w]) (k : ∀ σ' H2, R H H2 → SD B H2 σ' (((δ.set i (some p)).set j (some q)).set l (some w)) → u D σ' H2) : tSeq (tPar3 i j l ta) u D σ H := st_seq (st_par3 S h k)
theorem sq_unpack2 {d e : PyData} (S : SD B H σ δ) (h : Ev R B te δ H (im K B (.tuple [d, e]))) (k : ∀ σ' H2, R H H2 → SD B H2 σ' ((δ.set i (some (im K B d))).set j (some (im K B e))) → u D σ' H2) : tSeq (tAsg te (gTup K 2 (gCons (gName i) (gCons (gName j) gNil)))) u D σ H := st_seq (st_unpack2 S h k)
theorem sq_tup2 {ta : TA} [Stb B p] [Stb B q] (S : SD B H σ δ) (h : EvA R B ta δ H [p, q]) (k : ∀ σ' H2, R H H2 → SD B H2 σ' ((δ.set i (some p)).set j (some q)) → u D σ' H2) : tSeq (tAsg (tTup ta) (gTup K 2 (gCons (gName i) (gCons (gName j) gNil)))) u D σ H := st_seq (st_tup2 S h k)
theorem sq_expr (S : SD B H σ δ) (h : Ev R B te δ H p) (k : ∀ H2, R H H2 → SD B H2 σ δ → u D σ H2) : tSeq (tDrop te) u D σ H := st_seq (st_expr S h k)
theorem sq_star {ds : List PyData} {d : PyData} (S : SD B H σ δ) (h : Ev R B te δ H (im K B (.tuple (ds ++ [d])))) (hl : ds.length ≤ 16000) (k : ∀ σ' H2, R H H2 → SD B H2 σ' ((δ.set i (some (im K B (.list ds)))).set j (some (im K B d))) → u D σ' H2) : tSeq (tAsg te (gStarLast K i j)) u D σ H := st_seq (st_star S h hl k)
/-- an if whose way on is the other one -/
theorem sq_if {b : Bool} (S : SD B H σ δ) (h : EvT R B tt δ H b) (k1 : b = true → ∀ H2, R H H2 → SD B H2 σ δ → t { D with nx := u D } σ H2) (k2 : b = false → ∀ H2, R H H2 → SD B H2 σ δ → u D σ H2) : tSeq (tIfS tt t tNext) u D σ H := st_seq (st_if S h k1 k2)
theorem sq_ifx {C : Bool → Prop} (S : SD B H σ δ) (h : EvTx R B tt δ H C) (k1 : C true → ∀ H2, R H H2 → SD B H2 σ δ → t { D with nx := u D } σ H2) (k2 : C false → ∀ H2, R H H2 → SD B H2 σ δ → u D σ H2) : tSeq (tIfS tt t tNext) u D σ H := st_seq (st_ifx S h k1 k2)
/-- an if both of whose ways go on, J between -/
theorem cut_if {b : Bool} (J : L2.St → Hp → Prop) (S : SD B H σ δ) (h : EvT R B tt δ H b) (k1 : b = true → ∀ H2, R H H2 → SD B H2 σ δ → t { D with nx := J } σ H2) (k2 : b = false → ∀ H2, R H H2 → SD B H2 σ δ → e { D with nx := J } σ H2) (k : ∀ s Hc, J s Hc → u D s Hc) : C8.tCut (tIfS tt t e) u D σ H := ⟨J, st_if S h k1 k2, k⟩
theorem cut_ifx {C : Bool → Prop} (J : L2.St → Hp → Prop) (S : SD B H σ δ) (h : EvTx R B tt δ H C) (k1 : C true → ∀ H2, R H H2 → SD B H2 σ δ → t { D with nx := J } σ H2) (k2 : C false → ∀ H2, R H H2 → SD B H2 σ δ → e { D with nx := J } σ H2) (k : ∀ s Hc, J s Hc → u D s Hc) : C8.tCut (tIfS tt t e) u D σ H := ⟨J, st_ifx S h k1 k2, k⟩
theorem sq_for {wi : TI} {g : TG} {tb : TS} {n : Nat} {Y : Nat → PV} (S : SD B H σ δ) (hs : Src R B wi δ H n Y)
    (k : ∀ H0, R H H0 → SD B H0 σ δ → ∃ I : Nat → L2.St → Hp → Prop, I 0 σ H0 ∧ (∀ i s Hc, I i s Hc → RB B H0 Hc) ∧
      (∀ i x s Ha Hb, i < n → I i s Ha → Ex Ha Hb → Y i x Hb → g x s Hb fun σ2 H2 => tb { D with nx := I (i + 1), ct := I (i + 1), bk := u D } σ2 H2) ∧ ∀ s Hc, I n s Hc → u D s Hc) : tSeq (tFor wi g tb) u D σ H := st_seq (st_for S hs k)
/-- a for over one name -/
theorem sq_forN {wi : TI} {tb : TS} {n : Nat} {Y : Nat → PV} {v : Nat} [∀ i, Stb B (Y i)] (S : SD B H σ δ) (hs : Src R B wi δ H n Y) (δi : Nat → List (Option PV)) (J : Nat → Hp → Hp → Prop)
    (h0 : ∀ H0, R H H0 → SD B H0 σ δ → SD B H0 σ (δi 0) ∧ J 0 H0 H0)
    (turn : ∀ H0, R H H0 → ∀ i s Hc, i < n → RB B H0 Hc → J i H0 Hc → SD B Hc s ((δi i).set v (some (Y i))) → tb { D with nx := fun s' H' => RB B H0 H' ∧ J (i + 1) H0 H' ∧ SD B H' s' (δi (i + 1)), ct := fun s' H' => RB B H0 H' ∧ J (i + 1) H0 H' ∧ SD B H' s' (δi (i + 1)), bk := u D } s Hc)
    (jx : ∀ i H0 Ha Hb, Ex Ha Hb → J i H0 Ha → J i H0 Hb) (done : ∀ H0, R H H0 → ∀ s Hc, RB B H0 Hc → J n H0 Hc → SD B Hc s (δi n) → u D s Hc) : tSeq (tFor wi (gName v) tb) u D σ H :=
  sq_for S hs fun H0 r0 S0 => ⟨fun i s Hc => RB B H0 Hc ∧ J i H0 Hc ∧ SD B Hc s (δi i), ⟨RB.refl H0, (h0 H0 r0 S0).2, (h0 H0 r0 S0).1⟩, fun i s Hc z => z.1,
    fun i x s Ha Hb hi ⟨ra, ja, Sa⟩ e y => turn H0 r0 i _ Hb hi (ra.trans (RB.of_ex e)) (jx i H0 Ha Hb e ja) ((Sa.mono (RB.of_ex e)).set y), fun s Hc ⟨rc, jc, Sc⟩ => done H0 r0 s Hc rc jc Sc⟩
theorem st_forN {wi : TI} {tb : TS} {n : Nat} {Y : Nat → PV} {v : Nat} [∀ i, Stb B (Y i)] (S : SD B H σ δ) (hs : Src R B wi δ H n Y) (δi : Nat → List (Option PV)) (J : Nat → Hp → Hp → Prop)
    (h0 : ∀ H0, R H H0 → SD B H0 σ δ → SD B H0 σ (δi 0) ∧ J 0 H0 H0)
    (turn : ∀ H0, R H H0 → ∀ i s Hc, i < n → RB B H0 Hc → J i H0 Hc → SD B Hc s ((δi i).set v (some (Y i))) → tb { D with nx := fun s' H' => RB B H0 H' ∧ J (i + 1) H0 H' ∧ SD B H' s' (δi (i + 1)), ct := fun s' H' => RB B H0 H' ∧ J (i + 1) H0 H' ∧ SD B H' s' (δi (i + 1)), bk := D.nx } s Hc)
    (jx : ∀ i H0 Ha Hb, Ex Ha Hb → J i H0 Ha → J i H0 Hb) (done : ∀ H0, R H H0 → ∀ s Hc, RB B H0 Hc → J n H0 Hc → SD B Hc s (δi n) → D.nx s Hc) : tFor wi (gName v) tb D σ H :=
  st_for S hs fun H0 r0 S0 => ⟨fun i s Hc => RB B H0 Hc ∧ J i H0 Hc ∧ SD B Hc s (δi i), ⟨RB.refl H0, (h0 H0 r0 S0).2, (h0 H0 r0 S0).1⟩, fun i s Hc z => z.1,
    fun i x s Ha Hb hi ⟨ra, ja, Sa⟩ e y => turn H0 r0 i _ Hb hi (ra.trans (RB.of_ex e)) (jx i H0 Ha Hb e ja) ((Sa.mono (RB.of_ex e)).set y), fun s Hc ⟨rc, jc, Sc⟩ => done H0 r0 s Hc rc jc Sc⟩
theorem sq_while {tc : TT} {tb : TS} (W : Nat → L2.St → Hp → Prop) (m0 : Nat) (h0 : W m0 σ H)
    (hs : ∀ m s Hc, W m s Hc → ∃ δ b, SD B Hc s δ ∧ EvT R B tc δ Hc b ∧ (b = true → ∀ H1, R Hc H1 → SD B H1 s δ → tb { D with nx := fun s' H' => ∃ m', m' < m ∧ W m' s' H', ct := fun s' H' => ∃ m', m' < m ∧ W m' s' H', bk := u D } s H1) ∧ (b = false → ∀ H1, R Hc H1 → SD B H1 s δ → u D s H1)) : tSeq (tWhile tc tb) u D σ H := st_seq (st_while W m0 h0 hs)
theorem sq_append [Stb B q] {a : Addr} {vs : List V} (S : SD B H σ δ) (hi : δ[i]? = some (some (isP (.ref a)))) (hb : B a) (hp : H a = some (.lst vs)) (hl : vs.length < sizeLine) (he : Ev Ex B te δ H q)
    (k : ∀ v H3, SD B H3 σ δ → q v H3 → H3 a = some (.lst (vs ++ [v])) → RB B H H3 → u D σ H3) : tSeq (tDrop (tBM K "list" rAppend (tVar i) (tCons te tNil))) u D σ H := st_seq (st_append S hi hb hp hl he k)
end
theorem sq_hand {K : PySem.W.Frag} {N : List Str} {a : Addr} {ns : List Int} {n : Nat} {D : Ends} {u : TS} {H : Hp} {E : XK} (hN : N.length = n + 2) (hS : SqL K H a (ns.map .int)) (hl : ns.length ≤ 63)
    (k : ∀ h l σ' H1, Ex H H1 → HandOk h l H1 → SD (hB h l) H1 σ' (none :: some (isP (.ref h)) :: List.replicate n none) → u D σ' H1) : tSeq (tAsg (tCall (spHand K) [] E (tCons (tVar 0) tNil)) (gName 1)) u D (start N [.ref a]) H := st_seq (st_hand hN hS hl k)
end EL

set_option Elab.async false
set_option linter.all false
set_option maxRecDepth 100000
set_option maxHeartbeats 4000000
set_option autoImplicit false
namespace EL
open PySem PySem.Spec PyProof.Rows L2
theorem rv_cat {K : PySem.W.Frag} {B : Bn} {H : Hp} {ds es : List PyData} {x y : V} (hx : im K B (.tuple ds) x H) (hy : im K B (.tuple es) y H) (hl : ds.length + es.length ≤ sizeLine) : RV (rAddU K) x y H (im K B (.tuple (ds ++ es))) := fun Q k => by
  obtain ⟨a, vs, hx, hs, hv⟩ := hx
  obtain ⟨b, us, hy, ht, hu⟩ := hy
  refine .inr (.inl ⟨a, b, vs, us, hx, hy, hs, ht, by rw [imAll_len hv, imAll_len hu]; exact hl, fun e => ?_, fun _ e => ?_, fun _ _ l hn => ?_⟩)
  · subst e
    have : ds = [] := List.eq_nil_of_length_eq_zero (imAll_len hv).symm
    subst this
    exact k _ H (Ex.refl H) ⟨b, us, rfl, ht, hu⟩
  · subst e
    have : es = [] := List.eq_nil_of_length_eq_zero (imAll_len hu).symm
    subst this
    exact k _ H (Ex.refl H) (by rw [List.append_nil]; exact ⟨a, vs, rfl, hs, hv⟩)
  · exact k _ _ (Ex.new hn) ⟨l, vs ++ us, rfl, sqT_of upd_same, imAll_st (RB.of_ex (Ex.new hn)) _ _ (imAll_append hv hu)⟩
theorem im_rep {K : PySem.W.Frag} {B : Bn} {H : Hp} {ns : List Int} {k : Nat} {v : V} (h : im K B (.tuple (List.replicate k (ns.map PyData.int)).flatten) v H) : im K B (tI (List.replicate k ns).flatten) v H := by
  show im K B (.tuple ((List.replicate k ns).flatten.map PyData.int)) v H
  rw [List.map_flatten, List.map_replicate]
  exact h
theorem im_app {K : PySem.W.Frag} {B : Bn} {H : Hp} {ns ms : List Int} {v : V} (h : im K B (.tuple (ns.map PyData.int ++ ms.map PyData.int)) v H) : im K B (tI (ns ++ ms)) v H := by
  rw [← List.map_append] at h
  exact h
section
variable {R : Hp → Hp → Prop} {B : Bn} [rk : Rok B R] {K : PySem.W.Frag} {δ : List (Option PV)} {H : Hp} {te tb : TE}
/-- r[:k], k open -/
theorem ev_uptoN {ns : List Int} {C : Int → Prop} (h : Ev R B te δ H (im K B (tI ns))) (hb : Ev R B tb δ H (intP C)) (hC : ∀ k, C k → 0 ≤ k ∧ k < ns.length := by exact fun k c => ⟨c.1, c.2⟩) :
    Ev R B (tSl (rSlU K) te tNoPart (tPart tb)) δ H (exP (fun n : Nat => n < ns.length) fun n => im K B (tI (ns.take n))) := fun σ H1 r1 S Q k =>
  h σ H1 r1 S _ fun x Ha ra px => hb σ Ha (rk.tr r1 ra) (S.mono (rk.rb ra)) _ fun y Hb rb ⟨i, c, ey⟩ => by
    obtain ⟨c0, c1⟩ := hC i c
    refine ⟨i, ey, ?_⟩
    have := ev_slI (R := Ex) (B := B) (K := K) (te := tC x) (tl := tNoPart) (th := tPart (tC (.int ((i.toNat : Nat) : Int)))) (δ := []) (H := Hb) (ns := ns) (fun σ' Hc rc Sc Q' k' => k' x Hc (Ex.refl Hc) (im_st (RB.of_ex rc) _ _ (im_st (rk.rb rb) _ _ px))) eo_none (eo_some (K := K) ev_int) (cut_upto (n := i.toNat))
    rw [Int.toNat_of_nonneg c0] at this
    obtain ⟨j, ej, hj⟩ := this [] Hb (Ex.refl Hb) ⟨S.ok.mono (rk.rb (rk.tr ra rb)), rfl, fun i p e => by simp at e⟩ Q fun v H3 e3 hv => k v H3 (rk.tr (rk.tr ra rb) (rk.ex e3)) ⟨i.toNat, by omega, hv⟩
    cases ej
    exact hj
end
theorem cutJ {t u : TS} {D : Ends} {σ : L2.St} {H : Hp} (J : L2.St → Hp → Prop) (h : t { D with nx := J } σ H) (k : ∀ s Hc, J s Hc → u D s Hc) : C8.tCut t u D σ H := ⟨J, h, k⟩
theorem ev_tupX2 {R : Hp → Hp → Prop} {B : Bn} [rk : Rok B R] {K : PySem.W.Frag} {δ : List (Option PV)} {H : Hp} {ta tb : TE} {α : Type} {C : α → Prop} {f : α → PyData} {d : PyData} (ha : Ev R B ta δ H (exP C fun a => im K B (f a))) (hb : Ev R B tb δ H (im K B d)) : Ev R B (tTup (tCons ta (tCons tb tNil))) δ H (exP C fun a => im K B (.tuple [f a, d])) := fun σ H1 r1 S Q k =>
  ea_cons ha (ea_cons hb ea_nil) σ H1 r1 S _ fun vs H2 r2 ⟨v, r, e, ⟨a, c, pv⟩, v2, r', e', qv, e''⟩ => by
    subst e e'; cases (show r' = [] from e'')
    exact ⟨show 2 ≤ sizeLine by decide, fun T hT => k _ _ (rk.tr r2 (rk.ex (Ex.new hT))) ⟨a, c, T, _, rfl, sqT_of upd_same, imAll_st (B := B) (RB.of_ex (Ex.new hT)) [f a, d] [v, v2] ⟨v, _, rfl, pv, v2, _, rfl, qv, rfl⟩⟩⟩
end EL

set_option Elab.async false
set_option linter.all false
set_option maxRecDepth 100000
set_option maxHeartbeats 4000000
set_option autoImplicit false
namespace EL
open PySem PySem.Spec PyProof.Rows L2
section
variable {R : Hp → Hp → Prop} {B : Bn} [rk : Rok B R] {K : PySem.W.Frag} {δ : List (Option PV)} {H : Hp} {ta te tb : TE}
/-- r[k:], k open -/
theorem ev_fromN {ns : List Int} {C : Int → Prop} (h : Ev R B te δ H (im K B (tI ns))) (hb : Ev R B tb δ H (intP C)) :
    Ev R B (tSl (rSlU K) te (tPart tb) tNoPart) δ H (exP C fun k => im K B (tI (cut ns (some k) none))) := fun σ H1 r1 S Q k =>
  h σ H1 r1 S _ fun x Ha ra px => hb σ Ha (rk.tr r1 ra) (S.mono (rk.rb ra)) _ fun y Hb rb ⟨i, c, ey⟩ => by
    refine ⟨i, ey, ?_⟩
    have := ev_slI (R := Ex) (B := B) (K := K) (te := tC x) (tl := tPart (tC (.int i))) (th := tNoPart) (δ := []) (H := Hb) (ns := ns) (fun σ' Hc rc Sc Q' k' => k' x Hc (Ex.refl Hc) (im_st (RB.of_ex rc) _ _ (im_st (rk.rb rb) _ _ px))) (eo_some (K := K) ev_int) eo_none rfl
    obtain ⟨j, ej, hj⟩ := this [] Hb (Ex.refl Hb) ⟨S.ok.mono (rk.rb (rk.tr ra rb)), rfl, fun i p e => by simp at e⟩ Q fun v H3 e3 hv => k v H3 (rk.tr (rk.tr ra rb) (rk.ex e3)) ⟨i, c, hv⟩
    cases ej
    exact hj
theorem ev_subN {C D : Int → Prop} (ha : Ev R B ta δ H (intP C)) (hb : Ev R B tb δ H (intP D)) : Ev R B (tOp (rI0 fun i j => .int (i - j)) ta tb) δ H (intP fun k => ∃ i j, C i ∧ D j ∧ k = i - j) :=
  ev_op ha hb fun x y H1 _ _ ⟨i, c, hx⟩ ⟨j, d, hy⟩ Q k => ⟨i, j, hx, hy, k _ H1 (Ex.refl H1) ⟨i - j, ⟨i, j, c, d, rfl⟩, rfl⟩⟩
theorem cut_sub {α : Type} {xs : List α} {lo hi : Option Int} {x : α} (h : x ∈ cut xs lo hi) : x ∈ xs := List.mem_of_mem_drop (List.mem_of_mem_take h)
theorem cut_len {α : Type} {xs : List α} {lo hi : Option Int} : (cut xs lo hi).length ≤ xs.length := by
  unfold cut
  rw [List.length_take, List.length_drop]
  omega
theorem pAll_get {ps : List PV} {P : PV} (hP : ∀ p ∈ ps, ∀ v Hc, p v Hc → P v Hc) : ∀ {vs : List V} {Hc : Hp} {i : Nat} {v : V}, pAll ps vs Hc → vs[i]? = some v → P v Hc := by
  induction ps with
  | nil => intro vs Hc i v h e; rw [show vs = [] from h] at e; simp at e
  | cons p ps ih =>
    intro vs Hc i v ⟨x, r, e1, h1, h2⟩ e
    subst e1
    cases i with
    | zero => cases e; exact hP p List.mem_cons_self _ _ h1
    | succ i => exact ih (fun p hp => hP p (List.mem_cons_of_mem _ hp)) h2 e
theorem pAll_len {ps : List PV} {Hc : Hp} : ∀ {vs : List V}, pAll ps vs Hc → vs.length = ps.length := by
  induction ps with
  | nil => intro vs h; rw [show vs = [] from h]; rfl
  | cons p ps ih => intro vs ⟨x, r, e1, h1, h2⟩; rw [e1, List.length_cons, List.length_cons, ih h2]
/-- a written list is walked -/
theorem src_disp {ta : TA} {ps : List PV} {P : PV} [Stb B P] (h : EvA R B ta δ H ps) (hl : ps.length ≤ sizeLine) (hP : ∀ p ∈ ps, ∀ v Hc, p v Hc → P v Hc) : Src R B (iList K (tLst ta)) δ H ps.length (fun _ => P) := fun σ H1 r1 S Q k =>
  h σ H1 r1 S _ fun vs H2 r2 pr => by
    have ln := pAll_len pr
    refine ⟨by rw [ln]; exact hl, fun a ha => ⟨a, rfl, ⟨vs, sqL_of upd_same⟩, ?_⟩⟩
    have ex : Ex H2 (upd H2 a (.lst vs)) := Ex.new ha
    have nb : ¬ B a := not_ban (S.ok.mono (rk.rb r2)) ha
    refine k _ (fun Hc => SqL K Hc a vs ∧ ∀ i v, vs[i]? = some v → P v Hc) _ (rk.tr r2 (rk.ex ex)) ?_ fun H3 rb => ⟨rb.sqL nb (sqL_of upd_same), fun i v e => Stb.st rb (Stb.st (B := B) (RB.of_ex ex) (pAll_get hP pr e))⟩
    rw [← ln]
    exact walk_list.mono (fun _ z => z.1) fun i Ha x Hb _ g y => ⟨by rw [y.1]; exact Ex.refl _, by rw [y.1]; exact g.2 i x y.2⟩
end
/-! ### letters away, letters ahead -/
abbrev shift (f : Nat → Int) (k : Nat) : Nat → Int := fun n => f (n + k)
theorem sq_drop {b r : List Int} {k : Nat} (h : k ≤ b.length) : sq (b.drop k) r = shift (sq b r) k := funext fun n => by
  show _ = sq b r (n + k)
  by_cases z : n + k < b.length
  · rw [sq_lt z, sq_lt (by rw [List.length_drop]; omega), List.getD_eq_getElem?_getD, List.getElem?_drop, List.getD_eq_getElem?_getD, Nat.add_comm]
  · rw [sq_ge (b := b.drop k) (by rw [List.length_drop]; omega), sq_ge (b := b) (by omega), List.length_drop]
    congr 2
    omega
theorem rot_get' {r : List Int} {n j : Nat} (hn : n < r.length) (hj : j < r.length) : (r.drop n ++ r.take n).getD j 0 = r.getD ((n + j) % r.length) 0 := by
  rw [List.getD_eq_getElem?_getD, List.getD_eq_getElem?_getD]
  by_cases z : n + j < r.length
  · rw [List.getElem?_append_left (by rw [List.length_drop]; omega), List.getElem?_drop, Nat.mod_eq_of_lt z]
  · rw [List.getElem?_append_right (by rw [List.length_drop]; omega), List.length_drop, List.getElem?_take_of_lt (by omega)]
    congr 2
    have e : n + j = (j - (r.length - n)) + r.length := by omega
    rw [e, Nat.add_mod_right, Nat.mod_eq_of_lt (by omega)]
theorem rot_len' {r : List Int} {n : Nat} (hn : n < r.length) : (r.drop n ++ r.take n).length = r.length := by
  rw [List.length_append, List.length_drop, List.length_take]; omega
theorem sq_rot {b r : List Int} {k : Nat} (hr : r ≠ []) (h : b.length ≤ k) : sq [] (r.drop ((k - b.length) % r.length) ++ r.take ((k - b.length) % r.length)) = shift (sq b r) k := funext fun n => by
  have rp : 1 ≤ r.length := List.length_pos_iff.mpr hr
  have hm := Nat.mod_lt (k - b.length) rp
  show _ = sq b r (n + k)
  rw [nil_ge, rot_len' hm, rot_get' hm (Nat.mod_lt _ rp), sq_ge (by omega), ← Nat.add_mod]
  congr 2
  omega
theorem sq_ahead (c b r : List Int) : shift (sq (c ++ b) r) c.length = sq b r := funext fun n => by
  show sq (c ++ b) r (n + c.length) = _
  by_cases z : n < b.length
  · rw [sq_lt z, sq_lt (by rw [List.length_append]; omega), List.getD_eq_getElem?_getD, List.getElem?_append_right (by omega), Nat.add_sub_cancel, List.getD_eq_getElem?_getD]
  · rw [sq_ge (b := c ++ b) (by rw [List.length_append]; omega), sq_ge (b := b) (by omega), List.length_append]
    congr 2
    omega
end EL

set_option Elab.async false
set_option linter.all false
set_option maxRecDepth 100000
set_option maxHeartbeats 4000000
set_option autoImplicit false
namespace EL
open PySem PySem.Spec PyProof.Rows L2
/-! ### a < b of alike data -/
def rLtD (K : PySem.W.Frag) : R2 := fun x y H Q => ∃ d e, Dp K H x d ∧ Dp K H y e ∧ PySem.W.alike d e = true ∧ d ≠ .none ∧ d.depth ≤ 64 ∧ Q (.bl (PySem.W.dataLt d e)) H
theorem op_ltD {X : Cx} (hu : X.A.units + 64 < cLine) : OpR X (compareOp .Lt) (rLtD X.K) := by
  intro pins s σ H x y v u Q I rx ry h
  obtain ⟨d, e, hd, he, ha, hn, hl, q⟩ := h
  obtain ⟨as, r1⟩ := Dp.reads I d x v hd rx
  obtain ⟨bs, r2⟩ := Dp.reads I e y u he ry
  exact PySem.W.rcLt_alike d e X.A s v u as bs r1 r2 ha hn (by omega) _ _ _ _ ⟨.bl _, H, I, rfl, q⟩
def rLtU (K : PySem.W.Frag) : R2 := rOr (rI0 fun i j => .bl (decide (i < j))) (rLtD K)
theorem op_ltK {X : Cx} (K : PySem.W.Frag) (hu : X.A.units + 64 < cLine) (h : X.K = K := by rfl) : OpR X (compareOp .Lt) (rLtU K) := h ▸ op_or op_lt (op_ltD hu)
theorem pi_zipK {X : Cx} (K : PySem.W.Frag) {e e2 : Expr} {ta : TA} {p pos tpos : Pos} {elts : List Expr} {kk : Nat} (hg : Gl X "zip") (hm : X.mg "zip" = none) (ha : PA X [e, e2] ta)
    (hs : starEach [e, e2] X.env = (false, eval e X.env) :: starEach [e2] X.env := by rfl) (hpl : (backTo pos (starEach [e2] X.env)).any (·.1) = false := by rfl) (h : X.K = K := by rfl) :
    PI X (.Tuple elts kk tpos) (.Call (.Name "zip" p) [e, e2] [] pos) (iZip K ta) := h ▸ pi_zip hg hm ha hs hpl
section
variable {R : Hp → Hp → Prop} {B : Bn} [rk : Rok B R] {K : PySem.W.Frag} {δ : List (Option PV)} {H : Hp} {ta te tb : TE} {D : Ends} {σ : L2.St} {u tbd : TS}
theorem ev_ltU {i j : Int} (ha : Ev R B ta δ H (im K B (.int i))) (hb : Ev R B tb δ H (im K B (.int j))) : Ev R B (tOp (rLtU K) ta tb) δ H (im K B (.bool (decide (i < j)))) :=
  ev_op ha hb fun _ _ _ _ _ hx hy Q k => .inl (rv_I0 hx hy Q k)
theorem ev_ltD {d e : PyData} (ha : Ev R B ta δ H (im K B d)) (hb : Ev R B tb δ H (im K B e)) (h1 : PySem.W.alike d e = true) (h2 : d ≠ .none) (h3 : d.depth ≤ 64) : Ev R B (tOp (rLtU K) ta tb) δ H (im K B (.bool (PySem.W.dataLt d e))) :=
  ev_op ha hb fun x y H1 _ _ hx hy Q k => .inr ⟨d, e, im_dp _ _ hx, im_dp _ _ hy, h1, h2, h3, k _ H1 (Ex.refl H1) rfl⟩
/-- zip of two lists -/
theorem src_zip {ds es : List PyData} (ha : Ev R B ta δ H (im K B (.list ds))) (hb : Ev R B tb δ H (im K B (.list es))) (hl : ds.length = es.length) :
    Src R B (iZip K (tCons ta (tCons tb tNil))) δ H ds.length (fun i => im K B (.tuple [ds.getD i .none, es.getD i .none])) := fun σ H1 r S Q k =>
  ha σ H1 r S _ fun v H2 r2 hv => hb σ H2 (rk.tr r r2) (S.mono (rk.rb r2)) _ fun w H3 r3 ⟨b, ws, e', nb', s', hw⟩ => by
    obtain ⟨a, vs, e, nb, s, hv⟩ := im_st (rk.rb r3) _ _ hv
    refine ⟨a, b, vs, ws, by rw [e, e'], s, s', k _ (fun Hc => (SqL K Hc a vs ∧ SqL K Hc b ws) ∧ imAll K B ds vs Hc ∧ imAll K B es ws Hc) H3 (rk.tr r2 r3) ?_ fun H4 rb => ⟨⟨rb.sqL nb s, rb.sqL nb' s'⟩, imAll_st rb _ _ hv, imAll_st rb _ _ hw⟩⟩
    refine (walk_zip (by rw [imAll_len hv, imAll_len hw, ← hl, Nat.min_self])).mono (fun _ z => z.1) fun i Ha x Hb _ g ⟨T, y, z, ex, hT, eH, e1, e2⟩ => ?_
    subst eH
    have r4 := Ex.new (o := .tup [y, z]) hT
    exact ⟨r4, T, [y, z], ex, sqT_of upd_same, y, [z], rfl, im_st (RB.of_ex r4) _ _ (getD_im g.2.1 e1), z, [], rfl, im_st (RB.of_ex r4) _ _ (getD_im g.2.2 e2), rfl⟩
/-- a, b = the pair x -/
theorem g_pair {i j : Nat} {x : V} {d e : PyData} {Q : L2.St → Hp → Prop} (S : SD B H σ δ) (h : im K B (.tuple [d, e]) x H) (k : ∀ σ', SD B H σ' ((δ.set i (some (im K B d))).set j (some (im K B e))) → Q σ' H) :
    gTup K 2 (gCons (gName i) (gCons (gName j) gNil)) x σ H Q := by
  obtain ⟨a, vs, ev, s, v1, r1, e1, h1, v2, r2', e2, h2, e3⟩ := h
  subst ev e1 e2; cases (show r2' = [] from e3)
  exact ⟨a, _, rfl, s, rfl, v1, _, rfl, v2, _, rfl, rfl, k _ ((S.set h1).set h2)⟩
/-- for over a range, the body may do anything -/
theorem sq_forR {v : Nat} {n : Int} (S : SD B H σ δ) (h : Ev R B ta δ H (im K B (.int n))) (h1 : -(2 ^ 62) ≤ n) (h2 : n < 2 ^ 62) (I : Nat → L2.St → Hp → Prop) (h0 : ∀ H0, R H H0 → SD B H0 σ δ → I 0 σ H0)
    (turn : ∀ i s Hc, i < n.toNat → I i s Hc → tbd { D with nx := I (i + 1), ct := I (i + 1), bk := u D } (s.set v (some (.int i))) Hc) (done : ∀ s Hc, I n.toNat s Hc → u D s Hc) : tSeq (tFor (iRng1 (tCons ta tNil)) (gName v) tbd) u D σ H :=
  st_seq <| h σ H (rk.rf H) S _ fun w H2 r2 e => ⟨n, by rw [show w = _ from e], h1, h2, for_it (walk_range (lo := 0) (n := n.toNat)) I (h0 H2 r2 (S.mono (rk.rb r2))) (fun _ _ _ _ _ => trivial) (fun i x s Ha Hb hi p y => by
    obtain ⟨rfl, rfl⟩ := y
    have := turn i s Hb hi p
    rw [show (V.int (i : Int)) = V.int (0 + (i : Int)) by rw [Int.zero_add]] at this
    exact this) done⟩
theorem st_forR {v : Nat} {n : Int} (S : SD B H σ δ) (h : Ev R B ta δ H (im K B (.int n))) (h1 : -(2 ^ 62) ≤ n) (h2 : n < 2 ^ 62) (I : Nat → L2.St → Hp → Prop) (h0 : ∀ H0, R H H0 → SD B H0 σ δ → I 0 σ H0)
    (turn : ∀ i s Hc, i < n.toNat → I i s Hc → tbd { D with nx := I (i + 1), ct := I (i + 1), bk := D.nx } (s.set v (some (.int i))) Hc) (done : ∀ s Hc, I n.toNat s Hc → D.nx s Hc) : tFor (iRng1 (tCons ta tNil)) (gName v) tbd D σ H :=
  h σ H (rk.rf H) S _ fun w H2 r2 e => ⟨n, by rw [show w = _ from e], h1, h2, for_it (walk_range (lo := 0) (n := n.toNat)) I (h0 H2 r2 (S.mono (rk.rb r2))) (fun _ _ _ _ _ => trivial) (fun i x s Ha Hb hi p y => by
    obtain ⟨rfl, rfl⟩ := y
    have := turn i s Hb hi p
    rw [show (V.int (i : Int)) = V.int (0 + (i : Int)) by rw [Int.zero_add]] at this
    exact this) done⟩
theorem sq_unpack2x {α : Type} {C : α → Prop} {f g : α → PyData} {i j : Nat} (S : SD B H σ δ) (h : Ev R B te δ H (exP C fun a => im K B (.tuple [f a, g a]))) (k : ∀ a σ' H2, C a → R H H2 → SD B H2 σ' ((δ.set i (some (im K B (f a)))).set j (some (im K B (g a)))) → u D σ' H2) :
    tSeq (tAsg te (gTup K 2 (gCons (gName i) (gCons (gName j) gNil)))) u D σ H :=
  st_seq <| h σ H (rk.rf H) S _ fun v H2 r2 ⟨a, c, q⟩ => g_pair (S.mono (rk.rb r2)) q fun σ' S' => k a σ' H2 c r2 S'
/-- a list of data, equal to [] or not -/
theorem ev_neE [Rmk R] {ds : List PyData} (ha : Ev R B ta δ H (im K B (.list ds))) (hs : SeqAt.shaped (.list ds) = true) : Ev R B (tOp (rNeU K) ta (tLst tNil)) δ H (im K B (.bool (!ds.isEmpty))) :=
  (ev_ne ha ((ev_lstN (ds := []) ea_nil (Nat.zero_le _)).conv fun v H1 _ q => q.im) hs (by decide)).is (by rw [eqv_nil])
theorem Ev.own {p : Addr} {vs : List V} {ds : List PyData} (h : Ev R B te δ H (isP (.ref p))) (nb : ¬ B p) (e : H p = some (.lst vs)) (hv : imAll K B ds vs H) : Ev R B te δ H (im K B (.list ds)) :=
  h.conv fun v H1 r q => ⟨p, vs, q, nb, sqL_of ((rk.rb r).keep _ _ nb e), imAll_st (rk.rb r) _ _ hv⟩
end
/-! ### a list of one's own, grown -/
def PS : List (Option PV) → Prop
  | [] => True
  | none :: l => PS l
  | some q :: l => (∀ v H H', TK H H' → q v H → q v H') ∧ PS l
theorem ps_is {x : V} : ∀ v H H', TK H H' → isP x v H → isP x v H' := fun _ _ _ _ h => h
theorem ps_im {K : PySem.W.Frag} {B : Bn} {d : PyData} (h : plain d = true) : ∀ v H H', TK H H' → im K B d v H → im K B d v H' := fun v H H' t q => im_tk t d v h q
theorem PS.get : ∀ {δ : List (Option PV)} {i : Nat} {q : PV}, PS δ → δ[i]? = some (some q) → ∀ v H H', TK H H' → q v H → q v H'
  | [], _, _, _, e => by simp at e
  | none :: l, 0, _, _, e => by simp at e
  | none :: l, i + 1, _, h, e => PS.get (δ := l) (i := i) h (by simpa using e)
  | some q :: l, 0, _, h, e => by simp at e; subst e; exact h.1
  | some q :: l, i + 1, _, h, e => PS.get (δ := l) (i := i) h.2 (by simpa using e)
theorem SD.tk {B : Bn} {H H' : Hp} {σ : L2.St} {δ : List (Option PV)} (s : SD B H σ δ) (o : BOk B H') (t : TK H H') (p : PS δ) : SD B H' σ δ := ⟨o, s.len, fun i q e => by
  obtain ⟨a, v, e1, h⟩ := s.at_ i q e
  exact ⟨a, v, e1, p.get e v H H' t h⟩⟩
section
variable {B : Bn} {K : PySem.W.Frag} {δ : List (Option PV)} {H : Hp} {te : TE} {D : Ends} {σ : L2.St} {u : TS}
/-- own.append(x), x plain; the own list isn't of B -/
theorem st_push {i : Nat} {p : Addr} {vs : List V} {ds : List PyData} {d : PyData} (S : SD B H σ δ) (ps : PS δ) (hi : δ[i]? = some (some (isP (.ref p)))) (hp : H p = some (.lst vs)) (hv : imAll K B ds vs H) (pl : plainAll ds = true) (pd : plain d = true) (hl : ds.length < sizeLine) (he : Ev Ex B te δ H (im K B d))
    (k : ∀ v H2, Ex H H2 → SD B (upd H2 p (.lst (vs ++ [v]))) σ δ → imAll K B (ds ++ [d]) (vs ++ [v]) (upd H2 p (.lst (vs ++ [v]))) → D.nx σ (upd H2 p (.lst (vs ++ [v])))) : tDrop (tBM K "list" rAppend (tVar i) (tCons te tNil)) D σ H := by
  refine st_lmeth (R := Ex) S (ev_var hi) (ea_cons he ea_nil) (fun H1 r1 => ⟨_, r1 _ _ hp⟩) fun us H2 r2 S2 ⟨v, r, e, hq, e2⟩ => ?_
  subst e; cases (show r = [] from e2)
  have h2 := r2 _ _ hp
  have t := TK.upd (o := .lst (vs ++ [v])) h2
  refine ⟨p, vs, v, rfl, rfl, h2, by rw [imAll_len hv]; exact hl, k v H2 r2 (S2.tk (fun a b => ?_) t ps) (imAll_append (imAll_tk t _ _ pl (imAll_st (RB.of_ex r2) _ _ hv)) ⟨v, [], rfl, im_tk t _ _ pd hq, rfl⟩)⟩
  by_cases z : a = p
  · subst z; rw [upd_same]; exact fun q => nomatch q
  · rw [upd_ne z]; exact S2.ok a b
theorem sq_push {i : Nat} {p : Addr} {vs : List V} {ds : List PyData} {d : PyData} (S : SD B H σ δ) (ps : PS δ) (hi : δ[i]? = some (some (isP (.ref p)))) (hp : H p = some (.lst vs)) (hv : imAll K B ds vs H) (pl : plainAll ds = true) (pd : plain d = true) (hl : ds.length < sizeLine) (he : Ev Ex B te δ H (im K B d))
    (k : ∀ v H2, Ex H H2 → SD B (upd H2 p (.lst (vs ++ [v]))) σ δ → imAll K B (ds ++ [d]) (vs ++ [v]) (upd H2 p (.lst (vs ++ [v]))) → u D σ (upd H2 p (.lst (vs ++ [v])))) : tSeq (tDrop (tBM K "list" rAppend (tVar i) (tCons te tNil))) u D σ H := st_seq (st_push S ps hi hp hv pl pd hl he k)
end
/-! ### data of words -/
abbrev wdp (w : List Int × List Int) : PyData := wd w.1 w.2
theorem canLayAll_of : ∀ {ds : List PyData}, (∀ d ∈ ds, PyData.canLay0 d = true) → PyData.canLayAll0 ds = true
  | [], _ => by simp [PyData.canLayAll0]
  | d :: ds, h => by simp only [PyData.canLayAll0, h d (List.mem_cons_self ..), canLayAll_of fun e he => h e (List.mem_cons_of_mem _ he), Bool.and_self]
theorem depthAll_of {n : Nat} : ∀ {ds : List PyData}, (∀ d ∈ ds, PyData.depth d ≤ n) → PyData.depthAll ds ≤ n
  | [], _ => by simp [PyData.depthAll]
  | d :: ds, h => by
    have h1 := h d (List.mem_cons_self ..)
    have h2 := depthAll_of fun e he => h e (List.mem_cons_of_mem _ he)
    simp only [PyData.depthAll]
    omega
theorem shaped_list {ds : List PyData} {n : Nat} (h1 : ∀ d ∈ ds, PyData.canLay0 d = true) (h2 : ∀ d ∈ ds, PyData.depth d ≤ n) (hn : n ≤ 60) : SeqAt.shaped (.list ds) = true := by
  unfold SeqAt.shaped
  have a := canLayAll_of h1
  have b := depthAll_of h2
  simp only [PyData.canLay0, a, PyData.depth, Bool.true_and]
  exact decide_eq_true (by omega)
theorem canLay_wd (b r : List Int) : PyData.canLay0 (wd b r) = true := by
  have h1 := canLayAll_ints b
  have h3 := canLayAll_ints r
  simp only [PyData.canLay0, PyData.canLayAll0, h1, h3, Bool.and_self]
theorem depth_wd (b r : List Int) : PyData.depth (wd b r) ≤ 5 := by
  have h2 := depthAll_ints b
  have h4 := depthAll_ints r
  simp only [PyData.depth, PyData.depthAll]
  omega
theorem shaped_wds (ws : List (List Int × List Int)) : SeqAt.shaped (.list (ws.map wdp)) = true :=
  shaped_list (n := 5) (fun d hd => by obtain ⟨w, _, rfl⟩ := List.mem_map.mp hd; exact canLay_wd _ _) (fun d hd => by obtain ⟨w, _, rfl⟩ := List.mem_map.mp hd; exact depth_wd _ _) (by decide)
theorem plain_wds (ws : List (List Int × List Int)) : plainAll (ws.map wdp) = true := plainAll_iff.mpr fun d hd => by obtain ⟨w, _, rfl⟩ := List.mem_map.mp hd; exact plain_wd _ _
/-- by what words rise -/
abbrev ord (b r : List Int) : PyData := .tuple [.int ((b.length + r.length : Nat) : Int), .int (b.length : Nat), tI b, tI r]
theorem plain_ord (b r : List Int) : plain (ord b r) = true := by
  have h1 := plainAll_ints b
  have h2 := plainAll_ints r
  simp only [plain, plainAll, h1, h2, Bool.and_self]
theorem shaped_ord (b r : List Int) : SeqAt.shaped (ord b r) = true := by
  unfold SeqAt.shaped
  have h1 := canLayAll_ints b
  have h2 := depthAll_ints b
  have h3 := canLayAll_ints r
  have h4 := depthAll_ints r
  simp only [PyData.canLay0, PyData.canLayAll0, h1, h3, PyData.depth, PyData.depthAll, Bool.true_and, Bool.and_self]
  exact decide_eq_true (by omega)
theorem depth_ord (b r : List Int) : PyData.depth (ord b r) ≤ 5 := by
  have h2 := depthAll_ints b
  have h4 := depthAll_ints r
  simp only [PyData.depth, PyData.depthAll]
  omega
theorem eqv_ord (b r b' r' : List Int) : PyData.eqv (ord b r) (ord b' r') = decide ((b, r) = (b', r')) := by
  simp only [PyData.eqv, PyData.eqvAll, eqvAll_ints, Bool.and_true]
  by_cases h1 : b = b' <;> by_cases h2 : r = r' <;> simp [h1, h2]
theorem shows_ord {b r : List Int} (hb : ∀ x ∈ b, 0 ≤ x ∧ x < 1000) (hr : ∀ x ∈ r, 0 ≤ x ∧ x < 1000) (hl : b.length + r.length < 1000) : Shows (ord b r) := by
  have s1 := showableAll_small (ns := [((b.length + r.length : Nat) : Int), (b.length : Nat)]) (by intro x hx; simp at hx; omega)
  have s2 := leavesShortAll_small (ns := [((b.length + r.length : Nat) : Int), (b.length : Nat)]) (by intro x hx; simp at hx; omega)
  have s3 := weightAll_small (ns := [((b.length + r.length : Nat) : Int), (b.length : Nat)]) (by intro x hx; simp at hx; omega)
  simp only [List.map_cons, List.map_nil, PyData.showableAll, PyData.leavesShortAll, PyData.weightAll, Bool.and_true] at s1 s2 s3
  rw [Bool.and_eq_true] at s1 s2
  refine ⟨?_, ?_, ?_, ?_⟩
  · simp only [PyData.showable, PyData.showableAll, showableAll_small hb, showableAll_small hr, Bool.and_self, Bool.and_true] at s1 ⊢
    simp only [s1.1, s1.2, Bool.and_self]
  · simp only [PyData.hasDict, PyData.hasDictAll, hasDictAll_ints, Bool.or_self]
  · have := depth_ord b r
    omega
  · refine PyData.shown_fits (B := 13) (by decide) (by decide) ?_ ?_
    · simp only [PyData.leavesShort, PyData.leavesShortAll, leavesShortAll_small hb, leavesShortAll_small hr, Bool.and_self, Bool.and_true] at s2 ⊢
      simp only [s2.1, s2.2, Bool.and_self]
    · have h1 := weightAll_small hb
      have h2 := weightAll_small hr
      simp only [PyData.weight, PyData.weightAll] at s3 ⊢
      simp only [List.length_cons, List.length_nil] at s3
      omega
/-! ### which of two rows is ahead -/
def lx : List Int → List Int → Bool
  | x :: xs, y :: ys => if x = y then lx xs ys else decide (x < y)
  | _, _ => false
theorem lx_self : ∀ xs : List Int, lx xs xs = false
  | [] => rfl
  | x :: xs => by simp only [lx, if_true, lx_self xs]
theorem lx_app : ∀ {b b' : List Int} (r r' : List Int), b.length = b'.length → lx (b ++ r) (b' ++ r') = if b = b' then lx r r' else lx b b'
  | [], [], r, r', _ => by simp
  | x :: b, y :: b', r, r', h => by
    have ih := lx_app (b := b) (b' := b') r r' (by simpa using h)
    simp only [List.cons_append, lx, ih]
    by_cases h1 : x = y <;> by_cases h2 : b = b' <;> simp [h1, h2]
theorem lx_drop {xs ys : List Int} {i : Nat} (h1 : i < xs.length) (h2 : i < ys.length) : lx (xs.drop i) (ys.drop i) = if xs.getD i 0 = ys.getD i 0 then lx (xs.drop (i + 1)) (ys.drop (i + 1)) else decide (xs.getD i 0 < ys.getD i 0) := by
  rw [List.drop_eq_getElem_cons h1, List.drop_eq_getElem_cons h2, lx, List.getD_eq_getElem?_getD, List.getD_eq_getElem?_getD, List.getElem?_eq_getElem h1, List.getElem?_eq_getElem h2]
  rfl
theorem alike_ints : ∀ xs ys : List Int, PySem.W.alikeAll (xs.map .int) (ys.map .int) = true
  | [], _ => by simp [PySem.W.alikeAll]
  | x :: xs, [] => by simp [PySem.W.alikeAll]
  | x :: xs, y :: ys => by simp [PySem.W.alikeAll, PySem.W.alike, alike_ints xs ys]
theorem lt_ints : ∀ xs ys : List Int, xs.length = ys.length → PyProof.Rows.lexLt PyProof.Rows.itemOrd (PySem.W.keyToksAll (xs.map .int)) (PySem.W.keyToksAll (ys.map .int)) = lx xs ys
  | [], [], _ => by rw [List.map_nil]; decide
  | x :: xs, y :: ys, h => by
    simp only [List.map_cons, lx]
    by_cases z : x = y
    · rw [PySem.W.dataLt_all_yes (by simp [PySem.W.alike]) (by simp [PyData.eqv, z]), if_pos z, lt_ints xs ys (by simpa using h)]
    · rw [PySem.W.dataLt_all_no (by simp [PySem.W.alike]) (by simp [PyData.eqv, z]), if_neg z, PySem.W.dataLt_int]
def aheadB (b r b' r' : List Int) : Bool :=
  if b.length + r.length = b'.length + r'.length then (if b.length = b'.length then lx (b ++ r) (b' ++ r') else decide (b.length < b'.length)) else decide (b.length + r.length < b'.length + r'.length)
theorem alike_ord (b r b' r' : List Int) : PySem.W.alike (ord b r) (ord b' r') = true := by
  simp only [PySem.W.alike, PySem.W.alikeAll, alike_ints, Bool.and_self]
theorem lt_ord (b r b' r' : List Int) : PySem.W.dataLt (ord b r) (ord b' r') = aheadB b r b' r' := by
  unfold aheadB
  rw [PySem.W.dataLt_tuple]
  by_cases z : b.length + r.length = b'.length + r'.length
  · rw [if_pos z, PySem.W.dataLt_all_yes (by simp [PySem.W.alike]) (by simp [PyData.eqv, z])]
    by_cases y : b.length = b'.length
    · rw [if_pos y, PySem.W.dataLt_all_yes (by simp [PySem.W.alike]) (by simp [PyData.eqv, y]), lx_app _ _ y]
      by_cases q : b = b'
      · rw [if_pos q, PySem.W.dataLt_all_yes (by simp [PySem.W.alike, alike_ints]) (by rw [eqv_tI]; simp [q])]
        by_cases q2 : r = r'
        · rw [PySem.W.dataLt_all_yes (by simp [PySem.W.alike, alike_ints]) (by rw [eqv_tI]; simp [q2]), q2, lx_self]
          decide
        · rw [PySem.W.dataLt_all_no (by simp [PySem.W.alike, alike_ints]) (by rw [eqv_tI]; simp [q2]), PySem.W.dataLt_tuple, lt_ints _ _ (by omega)]
      · rw [if_neg q, PySem.W.dataLt_all_no (by simp [PySem.W.alike, alike_ints]) (by rw [eqv_tI]; simp [q]), PySem.W.dataLt_tuple, lt_ints _ _ y]
    · rw [if_neg y, PySem.W.dataLt_all_no (by simp [PySem.W.alike]) (by simp [PyData.eqv]; omega), PySem.W.dataLt_int]
      simp
  · rw [if_neg z, PySem.W.dataLt_all_no (by simp [PySem.W.alike]) (by simp [PyData.eqv]; omega), PySem.W.dataLt_int]
    by_cases q : b.length + r.length < b'.length + r'.length
    · rw [decide_eq_true q, decide_eq_true (by omega)]
    · rw [decide_eq_false q, decide_eq_false (by omega)]
end EL

set_option Elab.async false
set_option linter.all false
set_option maxRecDepth 100000
set_option maxHeartbeats 4000000
set_option autoImplicit false
namespace EL
open PySem PySem.Spec PyProof.Rows L2
/-! ### a new list of one's own -/
def ownE (B : Bn) (a : Addr) : PV := fun v Hc => v = .ref a ∧ ¬ B a ∧ Hc a = some (.lst [])
instance {B : Bn} {a : Addr} : Stb B (ownE B a) := ⟨fun r ⟨e, n, h⟩ => ⟨e, n, r.keep _ _ n h⟩⟩
abbrev ownX (B : Bn) : PV := exP (fun _ : Addr => True) (ownE B)
section
variable {R : Hp → Hp → Prop} {B : Bn} [rk : Rok B R] [rm : Rmk R] {K : PySem.W.Frag} {δ : List (Option PV)} {H : Hp} {ta te tb : TE} {D : Ends} {σ : L2.St} {u tbd : TS}
theorem ev_own (K : PySem.W.Frag) : Ev R B (tLst tNil) δ H (ownX B) := (ev_lstN (K := K) (ds := []) ea_nil (Nat.zero_le _)).conv fun v H1 _ ⟨a, vs, e, n, nb, h, q⟩ => ⟨a, trivial, e, nb, by rw [show vs = [] from q] at h; exact h⟩
end
theorem SD.own {B : Bn} {H : Hp} {σ : L2.St} {δ : List (Option PV)} (s : SD B H σ δ) (i : Nat) (e : δ[i]? = some (some (ownX B))) : ∃ a, ¬ B a ∧ H a = some (.lst []) ∧ SD B H σ (δ.set i (some (isP (.ref a)))) := by
  obtain ⟨v, e1, a, _, ev, nb, h⟩ := s.get e
  refine ⟨a, nb, h, s.ok, by rw [List.length_set]; exact s.len, fun j q e2 => ?_⟩
  by_cases z : i = j
  · subst z
    have hl : i < δ.length := by
      rcases Nat.lt_or_ge i δ.length with z | z
      · exact z
      · rw [List.getElem?_eq_none z] at e; cases e
    rw [List.getElem?_set_self hl] at e2
    cases e2
    exact ⟨inferInstance, v, e1, ev⟩
  · rw [List.getElem?_set_ne z] at e2
    exact s.at_ j q e2
theorem SD.up {B : Bn} {H : Hp} {σ : L2.St} {δ : List (Option PV)} {p q : PV} [hq : Stb B q] (s : SD B H σ δ) (i : Nat) (e : δ[i]? = some (some p)) (h : ∀ v, p v H → q v H) : SD B H σ (δ.set i (some q)) := by
  obtain ⟨v, e1, pv⟩ := s.get e
  refine ⟨s.ok, by rw [List.length_set]; exact s.len, fun j w e2 => ?_⟩
  by_cases z : i = j
  · subst z
    have hl : i < δ.length := by
      rcases Nat.lt_or_ge i δ.length with z | z
      · exact z
      · rw [List.getElem?_eq_none z] at e; cases e
    rw [List.getElem?_set_self hl] at e2
    cases e2
    exact ⟨hq, v, e1, h v pv⟩
  · rw [List.getElem?_set_ne z] at e2
    exact s.at_ j w e2
/-! ### lists of f x -/
theorem getD_map {α : Type} {f : α → PyData} {xs : List α} {i : Nat} (d : α) (h : i < xs.length) : (xs.map f).getD i .none = f (xs.getD i d) := by
  rw [List.getD_eq_getElem?_getD, List.getElem?_map, List.getElem?_eq_getElem h, List.getD_eq_getElem?_getD, List.getElem?_eq_getElem h]; rfl
theorem atI_map {α : Type} {f : α → PyData} {xs : List α} {i : Nat} (d : α) (h : i < xs.length) : atI (xs.map f) (i : Int) = some (f (xs.getD i d)) :=
  atI_nat (by rw [List.getElem?_map, List.getElem?_eq_getElem h, List.getD_eq_getElem?_getD, List.getElem?_eq_getElem h]; rfl)
theorem range_map {α β : Type} (f : α → β) (d : α) (xs : List α) : (List.range xs.length).map (fun i => f (xs.getD i d)) = xs.map f := by
  refine List.ext_getElem (by rw [List.length_map, List.length_map, List.length_range]) fun i h1 h2 => ?_
  rw [List.length_map] at h2
  rw [List.getElem_map, List.getElem_map, List.getElem_range, List.getD_eq_getElem?_getD, List.getElem?_eq_getElem h2]; rfl
theorem getD_mem {α : Type} {xs : List α} {i : Nat} (d : α) (h : i < xs.length) : xs.getD i d ∈ xs := by
  rw [List.getD_eq_getElem?_getD, List.getElem?_eq_getElem h]; exact List.getElem_mem h
section
variable {R : Hp → Hp → Prop} {B : Bn} [rk : Rok B R] {K : PySem.W.Frag} {δ : List (Option PV)} {H : Hp} {ta te tb : TE} {D : Ends} {σ : L2.St} {u tbd : TS}
theorem Src.conv {wi : TI} {n m : Nat} {Y Z : Nat → PV} (h : Src R B wi δ H n Y) (e : n = m) (c : ∀ i v Hc, i < n → Y i v Hc → Z i v Hc) : Src R B wi δ H m Z := fun σ H1 r S Q k =>
  h σ H1 r S Q fun J G H2 r2 w g => k J G H2 r2 (e ▸ w.mono (fun _ z => z) fun i Ha x Hb hi _ y => ⟨y.1, c i x Hb hi y.2⟩) g
theorem src_map {α : Type} (f : α → PyData) {xs : List α} (d : α) (h : Ev R B ta δ H (im K B (.list (xs.map f)))) : Src R B (iSeqU K ta) δ H xs.length (fun i => im K B (f (xs.getD i d))) :=
  (src_lstU h).conv (List.length_map ..) fun i v Hc hi q => by rw [List.length_map] at hi; rw [getD_map d hi] at q; exact q
theorem src_zipL {α : Type} (f g : α → PyData) {xs : List α} (d : α) (ha : Ev R B ta δ H (im K B (.list (xs.map f)))) (hb : Ev R B tb δ H (im K B (.list (xs.map g)))) : Src R B (iZip K (tCons ta (tCons tb tNil))) δ H xs.length (fun i => im K B (.tuple [f (xs.getD i d), g (xs.getD i d)])) :=
  (src_zip ha hb (by rw [List.length_map, List.length_map])).conv (List.length_map ..) fun i v Hc hi q => by rw [List.length_map] at hi; rw [getD_map d hi, getD_map d hi] at q; exact q
theorem ev_lcMapL [rm : Rmk R] {α : Type} {v : Nat} (f g : α → PyData) {xs : List α} (d : α) (h : Ev R B ta δ H (im K B (.list (xs.map f)))) (hn : xs.length ≤ sizeLine) (hp : ∀ x, x ∈ xs → plain (g x) = true)
    (he : ∀ x Hc, x ∈ xs → R H Hc → Ev R B te ((δ.set v none).set v (some (im K B (f x)))) Hc (im K B (g x))) : Ev R B (tLc (iSeqU K ta) (gName v) tYes te [v]) δ H (im K B (.list (xs.map g))) :=
  (ev_lcMap (K := K) (fun i => g (xs.getD i d)) (src_map f d h) hn (fun i hi => hp _ (getD_mem d hi)) fun i Hc hi r => he _ Hc (getD_mem d hi) r).is (by rw [range_map])
end
theorem shaped_bool (b : Bool) : SeqAt.shaped (.bool b) = true := by cases b <;> decide
theorem eqv_bool (a b : Bool) : PyData.eqv (.bool a) (.bool b) = (a == b) := by cases a <;> cases b <;> decide
end EL

set_option Elab.async false
set_option linter.all false
set_option maxRecDepth 100000
set_option maxHeartbeats 4000000
set_option autoImplicit false
namespace EL
open PySem PySem.Spec PyProof.Rows L2
/-! ### lists that are there as such -/
def rawL (K : PySem.W.Frag) (B : Bn) (ds : List PyData) : PV := fun v Hc => ∃ a vs, v = .ref a ∧ ¬ B a ∧ Hc a = some (.lst vs) ∧ imAll K B ds vs Hc
instance {K : PySem.W.Frag} {B : Bn} {ds : List PyData} : Stb B (rawL K B ds) := ⟨fun r ⟨a, vs, e, nb, h, q⟩ => ⟨a, vs, e, nb, r.keep _ _ nb h, imAll_st r _ _ q⟩⟩
theorem rawL.im {K : PySem.W.Frag} {B : Bn} {Hc : Hp} {ds : List PyData} {v : V} (h : rawL K B ds v Hc) : im K B (.list ds) v Hc := by
  obtain ⟨a, vs, e, nb, h, q⟩ := h
  exact ⟨a, vs, e, nb, sqL_of h, q⟩
theorem newL.raw {K : PySem.W.Frag} {B : Bn} {H Hc : Hp} {ds : List PyData} {v : V} (h : newL K B H ds v Hc) : rawL K B ds v Hc := by
  obtain ⟨a, vs, e, n, nb, h, q⟩ := h
  exact ⟨a, vs, e, nb, h, q⟩
section
variable {R : Hp → Hp → Prop} {B : Bn} [rk : Rok B R] {K : PySem.W.Frag} {δ : List (Option PV)} {H : Hp} {ta te tb : TE} {D : Ends} {σ : L2.St} {u tbd : TS}
theorem Ev.asL {ds : List PyData} (h : Ev R B ta δ H (rawL K B ds)) : Ev R B ta δ H (im K B (.list ds)) := h.conv fun _ _ _ q => q.im
theorem ev_catR {ds es : List PyData} (ha : Ev R B ta δ H (rawL K B ds)) (hb : Ev R B tb δ H (rawL K B es)) (hl : ds.length + es.length ≤ sizeLine) : Ev R B (tOp (rAddU K) ta tb) δ H (rawL K B (ds ++ es)) :=
  ev_op ha hb fun x y H1 _ o ⟨a, vs, e, nb, h, q⟩ ⟨b, ws, e', nb', h', q'⟩ Q k => .inr (.inr (.inl ⟨a, b, vs, ws, e, e', h, h', by rw [imAll_len q, imAll_len q']; exact hl, fun p hp =>
    k _ _ (Ex.new hp) ⟨p, vs ++ ws, rfl, not_ban o hp, upd_same, imAll_append (imAll_st (RB.of_ex (Ex.new hp)) _ _ q) (imAll_st (RB.of_ex (Ex.new hp)) _ _ q')⟩⟩))
theorem ev_lstR [Rmk R] {ta : TA} {ds : List PyData} (h : EvA R B ta δ H (ds.map (EL.im K B))) (hl : ds.length ≤ sizeLine) : Ev R B (tLst ta) δ H (rawL K B ds) := (ev_lstN h hl).conv fun _ _ _ q => q.raw
theorem ev_max2 {i j : Int} (ha : Ev R B ta δ H (im K B (.int i))) (hb : Ev R B tb δ H (im K B (.int j))) : Ev R B (tCB (fun xs H Q => ∃ i j, xs = [.int i, .int j] ∧ Q (.int (if j > i then j else i)) H) (tCons ta (tCons tb tNil))) δ H (im K B (.int (if j > i then j else i))) :=
  ev_cb (ea_cons ha (ea_cons hb ea_nil)) fun vs H1 _ _ ⟨v, r, e, h1, v2, r2, e2, h2, e3⟩ Q k => by
    subst e e2; cases (show r2 = [] from e3)
    rw [show v = _ from h1, show v2 = _ from h2]
    exact ⟨i, j, rfl, k _ H1 (rk.rf H1) rfl⟩
/-- what an inner for of a comprehension walks; the list at A is being made -/
def SrcD (R : Hp → Hp → Prop) (B : Bn) (wi : TI) (δ : List (Option PV)) (H : Hp) (n : Nat) (Y : Nat → PV) : Prop := ∀ σ H1 A, R H H1 → SD B H1 σ δ → H1 A ≠ none → ∀ Q : It → Hp → Prop,
  (∀ (J : It) (G : Hp → Prop) (H2 : Hp), R H1 H2 → Walk J n G (fun i Ha x Hb => Ex Ha Hb ∧ Y i x Hb) → (∀ H3, RB (fun a => B a ∨ a = A) H2 H3 → G H3) → Q J H2) → wi σ H1 Q
theorem srcD_range1 {n : Int} (h : Ev R B ta δ H (im K B (.int n))) (h1 : -(2 ^ 62) ≤ n) (h2 : n < 2 ^ 62) : SrcD R B (iRng1 (tCons ta tNil)) δ H n.toNat (fun i => im K B (.int i)) := fun σ H1 A r S _ Q k =>
  h σ H1 r S _ fun v H2 r2 e => ⟨n, by rw [show v = _ from e], h1, h2, k _ (fun _ => True) H2 r2 (walk_range.mono (fun _ z => z) fun i Ha x Hb _ _ y => ⟨by rw [y.1]; exact Ex.refl _, by rw [y.2]; show V.int (0 + (i : Int)) = V.int _; rw [Int.zero_add]⟩) fun _ _ => trivial⟩
theorem srcD_new {ds : List PyData} (pl : plainAll ds = true) (h : ∀ H', R H H' → Ev R B ta δ H' (newL K B H' ds)) : SrcD R B (iSeqU K ta) δ H ds.length (fun i => im K B (ds.getD i .none)) := fun σ H1 A r S nA Q k => .inl <|
  h H1 r σ H1 (rk.rf H1) S _ fun v H2 r2 ⟨a, vs, e, n, nb, s, hv⟩ => ⟨a, e, ⟨vs, sqL_of s⟩, by
    refine k _ (fun Hc => SqL K Hc a vs ∧ imAll K B ds vs Hc) H2 r2 ?_ fun H3 rb => ⟨rb.sqL (fun z => z.elim nb fun q => nA (q ▸ n)) (sqL_of s), imAll_tk rb.tk _ _ pl hv⟩
    rw [← imAll_len hv]
    exact walk_list.mono (fun _ z => z.1) fun i Ha x Hb _ g y => ⟨by rw [y.1]; exact Ex.refl _, by rw [y.1]; exact getD_im g.2 y.2⟩⟩
/-- [f for .. for ..] -/
theorem ev_lc2N [rm : Rmk R] {wi wi1 : TI} {v v1 n : Nat} {Y : Nat → PV} [∀ i, Stb B (Y i)] {Z : Nat → Nat → PV} [∀ i j, Stb B (Z i j)] (m : Nat → Nat) (f : Nat → Nat → PyData) (ne : v ≠ v1) (hY : ∀ i v Ha Hb, TK Ha Hb → Y i v Ha → Y i v Hb) (hs : Src R B wi δ H n Y) (hn : ((List.range n).flatMap fun i => (List.range (m i)).map (f i)).length ≤ sizeLine)
    (hp : ∀ i j, i < n → j < m i → plain (f i j) = true)
    (h1 : ∀ i Hc, i < n → R H Hc → SrcD R B wi1 (((δ.set v1 none).set v none).set v (some (Y i))) Hc (m i) (Z i))
    (he : ∀ i j Hc, i < n → j < m i → R H Hc → Ev R B te ((((((δ.set v1 none).set v none).set v (some (Y i))).set v1 none)).set v1 (some (Z i j))) Hc (im K B (f i j))) :
    Ev R B (tLc2 wi (gName v) tYes wi1 (gName v1) tYes te [v, v1] [v1]) δ H (newL K B H ((List.range n).flatMap fun i => (List.range (m i)).map (f i))) := fun σ H1 r1 S Q k =>
  hs σ H1 r1 S _ fun J G H2 r2 w hG D hD => by
    have nB : ¬ B D := not_ban (S.ok.mono (rk.rb r2)) hD
    have hD1 : Ex H2 (upd H2 D (.lst [])) := Ex.new hD
    let F : Nat → List PyData := fun i => (List.range i).flatMap fun i => (List.range (m i)).map (f i)
    have Fs : ∀ i, F (i + 1) = F i ++ (List.range (m i)).map (f i) := fun i => by
      show (List.range (i + 1)).flatMap _ = _
      rw [List.range_succ, List.flatMap_append]; simp [F]
    have Fl : ∀ i j, i ≤ j → (F i).length ≤ (F j).length := by
      intro i j hij
      induction j with
      | zero => rw [Nat.le_zero.mp hij]; exact Nat.le_refl _
      | succ j ih =>
        rcases Nat.eq_or_lt_of_le hij with e | e
        · rw [e]; exact Nat.le_refl _
        · rw [Fs, List.length_append]
          have := ih (by omega)
          omega
    let P : Nat → Nat → Hp → Prop := fun i j Hc => R H2 Hc ∧ ∃ vs, Hc D = some (.lst vs) ∧ imAll K B (F i ++ (List.range j).map (f i)) vs Hc
    have pf : ∀ i j, i < n → j ≤ m i → plainAll (F i ++ (List.range j).map (f i)) = true := by
      intro i j hi hj
      refine plainAll_iff.mpr fun d hd => ?_
      rcases List.mem_append.mp hd with hd | hd
      · obtain ⟨a, ha, hd⟩ := List.mem_flatMap.mp hd
        obtain ⟨b, hb, rfl⟩ := List.mem_map.mp hd
        rw [List.mem_range] at ha hb
        exact hp a b (by omega) hb
      · obtain ⟨b, hb, rfl⟩ := List.mem_map.mp hd
        rw [List.mem_range] at hb
        exact hp i b hi (by omega)
    refine ⟨fun i mm Hc => mm = n - i ∧ i ≤ n ∧ P i 0 Hc, ⟨n, by simp, Nat.zero_le _, rk.ex hD1, [], upd_same, rfl⟩, ?_⟩
    rintro i mm Hc ⟨rfl, hi, rc, vs, eD, hv⟩
    have gH := hG Hc (rk.rb rc)
    by_cases hlt : i < n
    · refine .inr ⟨w.goes i Hc hlt gH, P (i + 1) 0, fun H' p' => ⟨n - (i + 1), by omega, rfl, hlt, p'⟩, fun x Hb y => ?_⟩
      obtain ⟨ye, yy⟩ := w.yields i Hc x Hb hlt gH y
      have rb' : R H2 Hb := rk.tr rc (rk.ex ye)
      have Sb : SD B Hb ((σ.set v1 none).set v none) ((δ.set v1 none).set v none) := (((S.mono (rk.rb r2)).mono (rk.rb rb')).unset).unset
      have S2 : SD B Hb (((σ.set v1 none).set v none).set v (some x)) (((δ.set v1 none).set v none).set v (some (Y i))) := Sb.set yy
      refine ⟨?_, ?_⟩
      · show (((((σ.set v1 none).set v none).set v (some x)).set v1 none).set v none) = (σ.set v1 none).set v none
        rw [List.set_set, List.set_comm _ _ (fun z => ne z), List.set_set, List.set_set]
      show wi1 _ Hb _
      refine h1 i Hb hlt (rk.tr r1 (rk.tr r2 rb')) _ Hb D (rk.rf Hb) S2 (by rw [ye _ _ eD]; exact fun z => nomatch z) _ fun J1 G1 H4 r4 w1 hG1 => ?_
      have e4 : H4 D = some (.lst vs) := (rk.rb r4).keep _ _ nB (ye _ _ eD)
      have hv4 : imAll K B (F i ++ (List.range 0).map (f i)) vs H4 := imAll_st (rk.rb r4) _ _ (imAll_st (RB.of_ex ye) _ _ hv)
      refine ⟨fun j kk Hd => kk = m i - j ∧ j ≤ m i ∧ RB (fun a => B a ∨ a = D) H4 Hd ∧ P i j Hd, ⟨m i, by simp, Nat.zero_le _, RB.refl H4, rk.tr rb' r4, vs, e4, hv4⟩, ?_⟩
      rintro j kk Hd ⟨rfl, hj, rd, rd2, us, eD2, hv2⟩
      have gH1 := hG1 Hd rd
      by_cases hjl : j < m i
      · refine .inr ⟨w1.goes j Hd hjl gH1, fun H' => RB (fun a => B a ∨ a = D) H4 H' ∧ P i (j + 1) H', fun H' p' => ⟨m i - (j + 1), by omega, rfl, hjl, p'⟩, fun x1 He y1 => ?_⟩
        obtain ⟨ye1, yy1⟩ := w1.yields j Hd x1 He hjl gH1 y1
        have tk2 : TK Hb He := ⟨fun a xs z => ye1 _ _ (rd.tup a xs ((rk.rb r4).tup a xs z)), fun a o u z => ye1 _ _ (rd.frz a o u ((rk.rb r4).frz a o u z))⟩
        have S3 : SD B He (((((σ.set v1 none).set v none).set v (some x)).set v1 none).set v1 (some x1)) (((((δ.set v1 none).set v none).set v (some (Y i))).set v1 none).set v1 (some (Z i j))) := (((S.mono (rk.rb (rk.tr r2 (rk.tr rd2 (rk.ex ye1))))).unset).unset.set (hY i x Hb He tk2 yy)).unset.set yy1
        refine ⟨by show ((((((σ.set v1 none).set v none).set v (some x)).set v1 none).set v1 (some x1)).set v1 none) = ((((σ.set v1 none).set v none).set v (some x)).set v1 none); rw [List.set_set, List.set_set], ?_⟩
        show te _ He _
        refine he i j He hlt hjl (rk.tr (rk.tr r1 r2) (rk.tr rd2 (rk.ex ye1))) _ He (rk.rf He) S3 _ fun z H6 r6 hz => ?_
        have r36 : R Hd H6 := rk.tr (rk.ex ye1) r6
        have e6 : H6 D = some (.lst us) := (rk.rb r36).keep _ _ nB eD2
        have hv6 := imAll_st (rk.rb r36) _ _ hv2
        have pl := pf i j hlt hj
        refine ⟨us, e6, ?_, (rd.trans ((rk.rb r36).sub fun _ z => .inl z)).trans (RB.updB (RB.refl H6) (.inr rfl) e6), rm.new (rk.tr rd2 r36) hD, us ++ [z], upd_same, ?_⟩
        · rw [imAll_len hv6, List.length_append, List.length_map, List.length_range]
          have := Fl (i + 1) n hlt
          rw [Fs, List.length_append, List.length_map, List.length_range] at this
          have : (F n).length ≤ sizeLine := hn
          omega
        · rw [List.range_succ, List.map_append, ← List.append_assoc]
          exact imAll_append (imAll_tk (TK.upd e6) _ _ pl hv6) ⟨z, [], rfl, im_tk (TK.upd e6) _ _ (hp i j hlt hjl) hz, rfl⟩
      · have ej : j = m i := by omega
        subst ej
        refine .inl ⟨w1.stops Hd gH1, rd2, us, eD2, ?_⟩
        rw [List.range_zero, List.map_nil, List.append_nil, Fs]
        exact hv2
    · have e : i = n := by omega
      subst e
      refine .inl ⟨w.stops Hc gH, k _ Hc (rk.tr r2 rc) ⟨D, vs, rfl, RB.fresh (rk.rb (rk.tr r1 r2)) hD, nB, eD, ?_⟩⟩
      rw [List.range_zero, List.map_nil, List.append_nil] at hv
      exact hv
end
end EL

set_option Elab.async false
set_option linter.all false
set_option maxRecDepth 100000
set_option maxHeartbeats 4000000
set_option autoImplicit false
namespace EL
open PySem PySem.Spec PyProof.Rows L2
theorem range_flatMap {α β : Type} (f : α → List β) (d : α) (xs : List α) : (List.range xs.length).flatMap (fun i => f (xs.getD i d)) = xs.flatMap f := by
  rw [List.flatMap_def, List.flatMap_def, range_map]
theorem range_filter {α β : Type} (p : α → Bool) (g : α → β) (d : α) (xs : List α) : ((List.range xs.length).filter fun i => p (xs.getD i d)).map (fun i => g (xs.getD i d)) = (xs.filter p).map g := by
  have e : xs = (List.range xs.length).map fun i => xs.getD i d := by
    have := range_map (fun x : α => x) d xs
    rw [List.map_id'] at this
    exact this.symm
  conv => rhs; rw [e, List.filter_map, List.map_map]
  rfl
section
variable {R : Hp → Hp → Prop} {B : Bn} [rk : Rok B R] {K : PySem.W.Frag} {δ : List (Option PV)} {H : Hp} {ta te tb : TE} {D : Ends} {σ : L2.St} {u tbd : TS} {tt : TT}
theorem ev_lcFilterN [rm : Rmk R] {wi : TI} {v n : Nat} {Y : Nat → PV} [∀ i, Stb B (Y i)] (f : Nat → PyData) (p : Nat → Bool) (hs : Src R B wi δ H n Y) (hn : n ≤ sizeLine) (hp : ∀ i, i < n → plain (f i) = true)
    (ht : ∀ i Hc, i < n → R H Hc → EvT R B tt ((δ.set v none).set v (some (Y i))) Hc (p i)) (he : ∀ i Hc, i < n → p i = true → R H Hc → Ev R B te ((δ.set v none).set v (some (Y i))) Hc (im K B (f i))) : Ev R B (tLc wi (gName v) tt te [v]) δ H (newL K B H (((List.range n).filter p).map f)) :=
  (ev_lcN (K := K) (fun i ds => ds = ((List.range i).filter p).map f) hs hn rfl fun i ds Hc hi e r => ⟨_, etx_of (ht i Hc hi r), fun z => by rw [e, List.range_succ, List.filter_append, List.map_append]; simp [z.symm], fun z Hd rd => ⟨_, ev_one (he i Hd hi z.symm (rk.tr r rd)), fun d ed => ⟨by rw [ed]; exact hp i hi, by rw [e, ed, List.range_succ, List.filter_append, List.map_append]; simp [z.symm]⟩⟩⟩).conv
    fun v H1 _ ⟨ds, e, hv⟩ => e ▸ hv
theorem ev_lcFilterL [rm : Rmk R] {α : Type} {v : Nat} (f g : α → PyData) (p : α → Bool) {xs : List α} (d : α) (h : Ev R B ta δ H (im K B (.list (xs.map f)))) (hn : xs.length ≤ sizeLine) (hp : ∀ x, x ∈ xs → plain (g x) = true)
    (ht : ∀ x Hc, x ∈ xs → R H Hc → EvT R B tt ((δ.set v none).set v (some (im K B (f x)))) Hc (p x)) (he : ∀ x Hc, x ∈ xs → p x = true → R H Hc → Ev R B te ((δ.set v none).set v (some (im K B (f x)))) Hc (im K B (g x))) : Ev R B (tLc (iSeqU K ta) (gName v) tt te [v]) δ H (newL K B H ((xs.filter p).map g)) :=
  (ev_lcFilterN (K := K) (fun i => g (xs.getD i d)) (fun i => p (xs.getD i d)) (src_map f d h) hn (fun i hi => hp _ (getD_mem d hi)) (fun i Hc hi r => ht _ Hc (getD_mem d hi) r) fun i Hc hi z r => he _ Hc (getD_mem d hi) z r).is (by rw [range_filter])
/-- a def that only reads, whose answer is a new list of plain data -/
def newSp {α : Type} (K : PySem.W.Frag) (args : α → List PyData) (pre : α → Prop) (res : α → List PyData) : Sp := fun vs H Q _ =>
  ∃ a : α, imAll K (fun _ => False) (args a) vs H ∧ pre a ∧ ∀ v H', Ex H H' → newL K (fun _ => False) H (res a) v H' → Q v H'
theorem newSp.len {α : Type} {K : PySem.W.Frag} {args : α → List PyData} {pre : α → Prop} {res : α → List PyData} {n : Nat} (h : ∀ a, (args a).length = n) {vs : List V} {H : Hp} {Q : VK} {E : XK} (q : newSp K args pre res vs H Q E) : vs.length = n := by
  obtain ⟨a, hv, _⟩ := q
  rw [imAll_len hv, h]
theorem ev_callNew {α : Type} {args : α → List PyData} {pre : α → Prop} {res : α → List PyData} {E : XK} {ta : TA} (a : α) (h : EvA R B ta δ H ((args a).map (im K B))) (hp : pre a) (pa : plainAll (args a) = true) (pr : plainAll (res a) = true) :
    Ev R B (tCall (newSp K args pre res) [] E ta) δ H (newL K B H (res a)) := fun σ H1 r1 S Q k => h σ H1 r1 S _ fun us H2 r2 hu =>
      ⟨a, imAll_tk ⟨fun _ _ z => z, fun _ _ _ z => z⟩ _ _ pa (by rw [List.append_nil]; exact imAll_of_pAll hu), hp, fun v H3 e3 ⟨x, vs, e, n, nb, hx, hv⟩ => k v H3 (rk.tr r2 (rk.ex e3)) ⟨x, vs, e, RB.fresh (rk.rb (rk.tr r1 r2)) n, not_ban (S.ok.mono (rk.rb r2)) n, hx, imAll_tk ⟨fun _ _ z => z, fun _ _ _ z => z⟩ _ _ pr hv⟩⟩
theorem srcD_range2 {a b : Int} (ha : Ev R B ta δ H (im K B (.int a))) (hb : Ev R B tb δ H (im K B (.int b))) (hc : -(2 ^ 62) ≤ a ∧ a < 2 ^ 62 ∧ -(2 ^ 62) ≤ b ∧ b < 2 ^ 62) : SrcD R B (iRng2 (tCons ta (tCons tb tNil))) δ H (b - a).toNat (fun i => im K B (.int (a + i))) := fun σ H1 A r S _ Q k =>
  ha σ H1 r S _ fun v H2 r2 e => hb σ H2 (rk.tr r r2) (S.mono (rk.rb r2)) _ fun u H3 r3 e' => ⟨a, b, by rw [show v = _ from e, show u = _ from e'], hc, k _ (fun _ => True) H3 (rk.tr r2 r3) (walk_range.mono (fun _ z => z) fun i Ha x Hb _ _ y => ⟨by rw [y.1]; exact Ex.refl _, by rw [y.2]; rfl⟩) fun _ _ => trivial⟩
theorem SrcD.conv {wi : TI} {n m : Nat} {Y Z : Nat → PV} (h : SrcD R B wi δ H n Y) (e : n = m) (c : ∀ i v Hc, i < n → Y i v Hc → Z i v Hc) : SrcD R B wi δ H m Z := fun σ H1 A r S hA Q k =>
  h σ H1 A r S hA Q fun J G H2 r2 w g => k J G H2 r2 (e ▸ w.mono (fun _ z => z) fun i Ha x Hb hi _ y => ⟨y.1, c i x Hb hi y.2⟩) g
theorem srcD_newL {α : Type} (f : α → PyData) {xs : List α} (d : α) (pl : plainAll (xs.map f) = true) (h : ∀ H', R H H' → Ev R B ta δ H' (newL K B H' (xs.map f))) : SrcD R B (iSeqU K ta) δ H xs.length (fun i => im K B (f (xs.getD i d))) :=
  (srcD_new pl h).conv (List.length_map ..) fun i v Hc hi q => by rw [List.length_map] at hi; rw [getD_map d hi] at q; exact q
/-- for, the body may change the list at A -/
theorem st_forD {wi : TI} {v n : Nat} {Y : Nat → PV} [∀ i, Stb B (Y i)] {A : Addr} (S : SD B H σ δ) (hs : SrcD R B wi δ H n Y) (hA : H A ≠ none) (I : Hp → Nat → L2.St → Hp → Prop) (h0 : ∀ H0, R H H0 → SD B H0 σ δ → I H0 0 σ H0) (hI : ∀ H0 i s Hc, I H0 i s Hc → RB (fun a => B a ∨ a = A) H0 Hc)
    (turn : ∀ H0 i x s Ha Hc, R H H0 → i < n → I H0 i s Ha → Ex Ha Hc → Y i x Hc → tbd { D with nx := I H0 (i + 1), ct := I H0 (i + 1), bk := D.nx } (s.set v (some x)) Hc) (done : ∀ H0 s Hc, R H H0 → I H0 n s Hc → D.nx s Hc) : tFor wi (gName v) tbd D σ H :=
  hs σ H A (rk.rf H) S hA _ fun J G H2 r2 w hG => for_it w (I H2) (h0 H2 r2 (S.mono (rk.rb r2))) (fun i s Hc _ p => hG Hc (hI H2 i s Hc p)) (fun i x s Ha Hb hi p y => turn H2 i x s Ha Hb r2 hi p y.1 y.2) fun s Hc p => done H2 s Hc r2 p
theorem sq_forD {wi : TI} {v n : Nat} {Y : Nat → PV} [∀ i, Stb B (Y i)] {A : Addr} (S : SD B H σ δ) (hs : SrcD R B wi δ H n Y) (hA : H A ≠ none) (I : Hp → Nat → L2.St → Hp → Prop) (h0 : ∀ H0, R H H0 → SD B H0 σ δ → I H0 0 σ H0) (hI : ∀ H0 i s Hc, I H0 i s Hc → RB (fun a => B a ∨ a = A) H0 Hc)
    (turn : ∀ H0 i x s Ha Hc, R H H0 → i < n → I H0 i s Ha → Ex Ha Hc → Y i x Hc → tbd { D with nx := I H0 (i + 1), ct := I H0 (i + 1), bk := u D } (s.set v (some x)) Hc) (done : ∀ H0 s Hc, R H H0 → I H0 n s Hc → u D s Hc) : tSeq (tFor wi (gName v) tbd) u D σ H := st_seq (st_forD S hs hA I h0 hI turn done)
end
section
variable {B : Bn} {K : PySem.W.Frag} {δ : List (Option PV)} {H : Hp} {te : TE} {D : Ends} {σ : L2.St} {u : TS}
/-- own.extend(a new list of plain data); the own list isn't of B -/
theorem st_extend {i : Nat} {p : Addr} {vs : List V} {ds es : List PyData} (S : SD B H σ δ) (ps : PS δ) (hi : δ[i]? = some (some (isP (.ref p)))) (hp : H p = some (.lst vs)) (hv : imAll K B ds vs H) (pl : plainAll ds = true) (pe : plainAll es = true) (hl : ds.length + es.length ≤ sizeLine) (he : Ev Ex B te δ H (newL K B H es))
    (k : ∀ ws H2, Ex H H2 → SD B (upd H2 p (.lst (vs ++ ws))) σ δ → imAll K B (ds ++ es) (vs ++ ws) (upd H2 p (.lst (vs ++ ws))) → D.nx σ (upd H2 p (.lst (vs ++ ws)))) : tDrop (tBM K "list" rExtend (tVar i) (tCons te tNil)) D σ H := by
  refine st_lmeth (R := Ex) S (ev_var hi) (ea_cons he ea_nil) (fun H1 r1 => ⟨_, r1 _ _ hp⟩) fun us H2 r2 S2 ⟨v, r, e, ⟨a, ws, ea, na, nb, ha, hw⟩, e2⟩ => ?_
  subst e ea; cases (show r = [] from e2)
  have h2 := r2 _ _ hp
  have t := TK.upd (o := .lst (vs ++ ws)) h2
  refine ⟨p, a, vs, ws, rfl, rfl, h2, ha, by rw [imAll_len hv, imAll_len hw]; exact hl, k ws H2 r2 (S2.tk (fun a b => ?_) t ps) (imAll_append (imAll_tk t _ _ pl (imAll_st (RB.of_ex r2) _ _ hv)) (imAll_tk t _ _ pe hw))⟩
  by_cases z : a = p
  · subst z; rw [upd_same]; exact fun q => nomatch q
  · rw [upd_ne z]; exact S2.ok a b
theorem RB.upd1 {p : Addr} {H0 Hc : Hp} {xs : List V} {o : HO} (r : RB (fun a => B a ∨ a = p) H0 Hc) (e : Hc p = some (.lst xs)) : RB (fun a => B a ∨ a = p) H0 (upd Hc p o) := r.updB (.inr rfl) e
theorem ev_tupleR {R : Hp → Hp → Prop} [rk : Rok B R] {ta : TE} {ds : List PyData} (ha : Ev R B ta δ H (im K B (.list ds))) : Ev R B (tCB (rTupQ K) (tCons ta tNil)) δ H (im K B (.tuple ds)) :=
  ((ev_tupleLx (C := fun _ : Unit => True) (f := fun _ => ds) (ha.conv fun _ _ _ q => ⟨(), trivial, q⟩))).conv fun _ _ _ ⟨_, _, q⟩ => q
end
end EL

set_option Elab.async false
set_option linter.all false
set_option maxRecDepth 100000
set_option maxHeartbeats 4000000
set_option autoImplicit false
namespace EL
open PySem PySem.Spec PyProof.Rows L2
/-! ### all rows of so many letters -/
def rowsI (L : Nat) : Nat → List (List Int)
  | 0 => [[]]
  | n + 1 => (rowsI L n).flatMap fun row => (List.range L).map fun x => row ++ [((x : Nat) : Int)]
theorem rowsI_len (L : Nat) : ∀ n, (rowsI L n).length = L ^ n
  | 0 => rfl
  | n + 1 => by
    have : ∀ xs : List (List Int), (xs.flatMap fun row => (List.range L).map fun x => row ++ [((x : Nat) : Int)]).length = xs.length * L := by
      intro xs
      induction xs with
      | nil => simp
      | cons x xs ih => rw [List.flatMap_cons, List.length_append, ih, List.length_map, List.length_range, List.length_cons, Nat.succ_mul, Nat.add_comm]
    rw [rowsI, this, rowsI_len L n, Nat.pow_succ]
theorem rowsI_mem {L : Nat} : ∀ {n : Nat} {row : List Int}, row ∈ rowsI L n → row.length = n ∧ ∀ x ∈ row, 0 ≤ x ∧ x < (L : Int)
  | 0, row, h => by
    rw [rowsI, List.mem_singleton] at h; subst h; exact ⟨rfl, fun x hx => nomatch hx⟩
  | n + 1, row, h => by
    rw [rowsI] at h
    obtain ⟨r, hr, h⟩ := List.mem_flatMap.mp h
    obtain ⟨x, hx, rfl⟩ := List.mem_map.mp h
    obtain ⟨h1, h2⟩ := rowsI_mem hr
    rw [List.mem_range] at hx
    refine ⟨by rw [List.length_append, h1]; rfl, fun y hy => ?_⟩
    rcases List.mem_append.mp hy with hy | hy
    · exact h2 y hy
    · rw [List.mem_singleton] at hy; omega
def dg (L : Nat) : Nat → Nat → List Int
  | 0, _ => []
  | k + 1, n => dg L k (n / L) ++ [((n % L : Nat) : Int)]
theorem dg_succ (L : Nat) : ∀ k n, dg L (k + 1) n = [((n / L ^ k % L : Nat) : Int)] ++ dg L k n
  | 0, n => by simp [dg]
  | k + 1, n => by
    rw [dg, dg_succ L k (n / L), Nat.div_div_eq_div_mul, ← Nat.pow_succ', List.append_assoc]
    rfl
theorem range_mul (b : Nat) : ∀ a, List.range (a * b) = (List.range a).flatMap fun q => (List.range b).map fun x => q * b + x
  | 0 => by simp
  | a + 1 => by
    rw [Nat.succ_mul, List.range_add, range_mul b a, List.range_succ, List.flatMap_append]
    simp
theorem rows_dg (L : Nat) : ∀ k, (List.range (L ^ k)).map (dg L k) = rowsI L k
  | 0 => by simp [rowsI, dg]
  | k + 1 => by
    rw [Nat.pow_succ, range_mul, List.map_flatMap, rowsI, ← rows_dg L k, List.flatMap_map]
    congr 1
    funext q
    rw [List.map_map]
    refine List.map_congr_left fun x hx => ?_
    rw [List.mem_range] at hx
    have hL : 0 < L := by omega
    show dg L (k + 1) (q * L + x) = dg L k q ++ [(x : Int)]
    rw [dg, Nat.mul_comm q L, Nat.mul_add_div hL, Nat.div_eq_of_lt hx, Nat.add_zero, Nat.mul_add_mod, Nat.mod_eq_of_lt hx]
/-! ### told forms -/
noncomputable def isTold (w : List Int × List Int) : Bool := decide (told (sq w.1 w.2) = w)
def noShort (r : List Int) : Prop := ∀ q, 1 ≤ q → q < r.length → r.length % q = 0 → (List.replicate (r.length / q) (r.take q)).flatten ≠ r
theorem isTold_iff {b r : List Int} (hr : r ≠ []) : told (sq b r) = (b, r) ↔ (∀ c x, b = c ++ [x] → ∀ d, r ≠ d ++ [x]) ∧ noShort r := by
  have rp : 1 ≤ r.length := List.length_pos_iff.mpr hr
  constructor
  · intro e
    obtain ⟨t1, t2, t3⟩ := told_len (b := b) hr
    refine ⟨fun c x hc d hd => ?_, fun q h1 h2 h3 h4 => ?_⟩
    · have := told_len (b := c) (r := x :: d) (by simp)
      rw [rot_step, ← hc, ← hd, e] at this
      have h := this.1
      rw [hc, List.length_append] at h
      simp at h
      omega
    · have p := (rep_iff h1 (Nat.le_of_lt h2) h3).mp h4
      have e2 : sq b (r.take q) = sq b r := funext fun n => by
        by_cases z : n < b.length
        · rw [sq_lt z, sq_lt z]
        · have z : b.length ≤ n := by omega
          have tq : (r.take q).length = q := by rw [List.length_take]; omega
          have e3 : sq [] (r.take q) (n - b.length) = sq [] r (n - b.length) := by
            rw [nil_ge, tq]
            have hm : (n - b.length) % q < q := Nat.mod_lt _ (by omega)
            rw [List.getD_eq_getElem?_getD, List.getElem?_take_of_lt hm, ← List.getD_eq_getElem?_getD]
            have := p.mul ((n - b.length) / q) ((n - b.length) % q) (Nat.zero_le _)
            rw [Nat.mod_add_div] at this
            rw [this, nil_ge, Nat.mod_eq_of_lt (by omega : (n - b.length) % q < r.length)]
          have a1 := sq_tail (b := b) (r := r.take q) (n - b.length)
          have a2 := sq_tail (b := b) (r := r) (n - b.length)
          rw [show b.length + (n - b.length) = n by omega] at a1 a2
          rw [a1, a2, e3]
      have ne : r.take q ≠ [] := fun z => by
        have := congrArg List.length z
        rw [List.length_take, List.length_nil] at this
        omega
      have := (told_len (b := b) ne).2.1
      rw [e2, e, List.length_take] at this
      have : r.length ≤ min q r.length := this
      omega
  · rintro ⟨h1, h2⟩
    have sh : Short r r := short_self hr fun q a1 a2 a3 a4 => h2 q a1 a2 a3 ((rep_iff a1 (Nat.le_of_lt a2) a3).mpr a4)
    exact told_end hr rfl (short_min (b := b) sh) h1
/-! ### all words to a size -/
def blk (L m k : Nat) : List (List Int × List Int) := (rowsI L k).flatMap fun b => (rowsI L (m - k)).map fun r => (b, r)
noncomputable def lay (L m : Nat) : List (List Int × List Int) := (List.range m).flatMap fun k => (blk L m k).filter isTold
noncomputable def due (L n : Nat) : List (List Int × List Int) := (List.range n).flatMap fun m => lay L (m + 1)
theorem due_succ (L n : Nat) : due L (n + 1) = due L n ++ lay L (n + 1) := by
  unfold due
  rw [List.range_succ, List.flatMap_append]
  simp
theorem blk_len (L m k : Nat) (h : k ≤ m) : (blk L m k).length = L ^ m := by
  have : ∀ xs : List (List Int), (xs.flatMap fun b => (rowsI L (m - k)).map fun r => (b, r)).length = xs.length * L ^ (m - k) := by
    intro xs
    induction xs with
    | nil => simp
    | cons x xs ih => rw [List.flatMap_cons, List.length_append, ih, List.length_map, rowsI_len, List.length_cons, Nat.succ_mul, Nat.add_comm]
  unfold blk
  rw [this, rowsI_len, ← Nat.pow_add, show k + (m - k) = m by omega]
theorem blk_mem {L m k : Nat} {w : List Int × List Int} (hk : k < m) (h : w ∈ blk L m k) : w.1.length = k ∧ w.2.length = m - k ∧ w.2 ≠ [] ∧ (∀ x ∈ w.1, 0 ≤ x ∧ x < (L : Int)) ∧ ∀ x ∈ w.2, 0 ≤ x ∧ x < (L : Int) := by
  obtain ⟨b, hb, h⟩ := List.mem_flatMap.mp h
  obtain ⟨r, hr, rfl⟩ := List.mem_map.mp h
  obtain ⟨h1, h2⟩ := rowsI_mem hb
  obtain ⟨h3, h4⟩ := rowsI_mem hr
  refine ⟨h1, h3, fun e => ?_, h2, h4⟩
  have e : r = [] := e
  rw [e] at h3
  simp at h3
  omega
theorem lay_mem {L m : Nat} {w : List Int × List Int} (h : w ∈ lay L m) : w.1.length + w.2.length = m ∧ w.2 ≠ [] ∧ (∀ x ∈ w.1, 0 ≤ x ∧ x < (L : Int)) ∧ ∀ x ∈ w.2, 0 ≤ x ∧ x < (L : Int) := by
  obtain ⟨k, hk, h⟩ := List.mem_flatMap.mp h
  rw [List.mem_range] at hk
  have h := blk_mem hk (List.mem_filter.mp h).1
  exact ⟨by omega, h.2.2⟩
theorem due_mem {L n : Nat} {w : List Int × List Int} (h : w ∈ due L n) : 1 ≤ w.1.length + w.2.length ∧ w.1.length + w.2.length ≤ n ∧ w.2 ≠ [] ∧ (∀ x ∈ w.1, 0 ≤ x ∧ x < (L : Int)) ∧ ∀ x ∈ w.2, 0 ≤ x ∧ x < (L : Int) := by
  obtain ⟨m, hm, h⟩ := List.mem_flatMap.mp h
  rw [List.mem_range] at hm
  have h := lay_mem h
  exact ⟨by omega, by omega, h.2⟩
def cnt (L : Nat) : Nat → Nat
  | 0 => 0
  | n + 1 => cnt L n + (n + 1) * L ^ (n + 1)
theorem layp_len (L m : Nat) : ∀ j, j ≤ m → ((List.range j).flatMap fun k => (blk L m k).filter isTold).length ≤ j * L ^ m
  | 0, _ => by simp
  | j + 1, h => by
    rw [List.range_succ, List.flatMap_append, List.length_append, Nat.succ_mul]
    have := layp_len L m j (by omega)
    have h2 : ([j].flatMap fun k => (blk L m k).filter isTold).length ≤ L ^ m := by
      simp only [List.flatMap_cons, List.flatMap_nil, List.append_nil]
      exact Nat.le_trans (List.length_filter_le ..) (by rw [blk_len L m j (by omega)]; exact Nat.le_refl _)
    omega
theorem due_len (L : Nat) : ∀ n, (due L n).length ≤ cnt L n
  | 0 => by simp [due]
  | n + 1 => by
    rw [due_succ, List.length_append, cnt]
    have := due_len L n
    have h2 : (lay L (n + 1)).length ≤ (n + 1) * L ^ (n + 1) := layp_len L (n + 1) (n + 1) (Nat.le_refl _)
    omega
theorem due_few (L n : Nat) : (due L n).filter (fun w => decide (w.1.length + w.2.length < n)) = due L (n - 1) := by
  cases n with
  | zero => simp [due]
  | succ n =>
    rw [due_succ, List.filter_append, List.filter_eq_self.mpr fun w hw => ?_, List.filter_eq_nil_iff.mpr fun w hw => ?_, List.append_nil]
    · rfl
    · have := lay_mem hw; rw [decide_eq_false (by omega)]; exact Bool.false_ne_true
    · have := due_mem hw; exact decide_eq_true (by omega)
end EL

set_option Elab.async false
set_option linter.all false
set_option maxRecDepth 100000
set_option maxHeartbeats 4000000
set_option autoImplicit false
namespace EL
open PySem PySem.Spec PyProof.Rows L2
theorem newL.back {K : PySem.W.Frag} {B : Bn} {H H0 Hc : Hp} {ds : List PyData} {v : V} (e : Ex H H0) (h : newL K B H0 ds v Hc) : newL K B H ds v Hc := by
  obtain ⟨a, vs, ev, n, nb, hx, hv⟩ := h
  exact ⟨a, vs, ev, e.free n, nb, hx, hv⟩
theorem SD.ownN {K : PySem.W.Frag} {B : Bn} {H H0 : Hp} {σ : L2.St} {δ : List (Option PV)} (s : SD B H σ δ) (i : Nat) (e : δ[i]? = some (some (newL K B H0 []))) : ∃ a, ¬ B a ∧ H0 a = none ∧ H a = some (.lst []) ∧ SD B H σ (δ.set i (some (isP (.ref a)))) := by
  obtain ⟨v, e1, a, vs, ev, n, nb, h, q⟩ := s.get e
  rw [show vs = [] from q] at h
  refine ⟨a, nb, n, h, s.ok, by rw [List.length_set]; exact s.len, fun j q e2 => ?_⟩
  by_cases z : i = j
  · subst z
    have hl : i < δ.length := by
      rcases Nat.lt_or_ge i δ.length with z | z
      · exact z
      · rw [List.getElem?_eq_none z] at e; cases e
    rw [List.getElem?_set_self hl] at e2
    cases e2
    exact ⟨inferInstance, v, e1, ev⟩
  · rw [List.getElem?_set_ne z] at e2
    exact s.at_ j q e2
section
variable {R : Hp → Hp → Prop} {B : Bn} [rk : Rok B R] {K : PySem.W.Frag} {δ δ' : List (Option PV)} {H : Hp} {ta te tb : TE} {D : Ends} {σ : L2.St} {u tbd : TS} {tt : TT}
theorem st_forR2 {v : Nat} {a b : Int} (S : SD B H σ δ) (ha : Ev R B ta δ H (im K B (.int a))) (hb : Ev R B tb δ H (im K B (.int b))) (hc : -(2 ^ 62) ≤ a ∧ a < 2 ^ 62 ∧ -(2 ^ 62) ≤ b ∧ b < 2 ^ 62) (I : Nat → L2.St → Hp → Prop) (h0 : ∀ H0, R H H0 → SD B H0 σ δ → I 0 σ H0)
    (turn : ∀ i s Hc, i < (b - a).toNat → I i s Hc → tbd { D with nx := I (i + 1), ct := I (i + 1), bk := D.nx } (s.set v (some (.int (a + i)))) Hc) (done : ∀ s Hc, I (b - a).toNat s Hc → D.nx s Hc) : tFor (iRng2 (tCons ta (tCons tb tNil))) (gName v) tbd D σ H :=
  ha σ H (rk.rf H) S _ fun w H2 r2 e => hb σ H2 r2 (S.mono (rk.rb r2)) _ fun w2 H3 r3 e2 => ⟨a, b, by rw [show w = _ from e, show w2 = _ from e2], hc, for_it (walk_range (lo := a) (n := (b - a).toNat)) I (h0 H3 (rk.tr r2 r3) (S.mono (rk.rb (rk.tr r2 r3)))) (fun _ _ _ _ _ => trivial) (fun i x s Ha Hb hi p y => by
    obtain ⟨rfl, rfl⟩ := y
    exact turn i s Hb hi p) done⟩
theorem sq_forR2 {v : Nat} {a b : Int} (S : SD B H σ δ) (ha : Ev R B ta δ H (im K B (.int a))) (hb : Ev R B tb δ H (im K B (.int b))) (hc : -(2 ^ 62) ≤ a ∧ a < 2 ^ 62 ∧ -(2 ^ 62) ≤ b ∧ b < 2 ^ 62) (I : Nat → L2.St → Hp → Prop) (h0 : ∀ H0, R H H0 → SD B H0 σ δ → I 0 σ H0)
    (turn : ∀ i s Hc, i < (b - a).toNat → I i s Hc → tbd { D with nx := I (i + 1), ct := I (i + 1), bk := u D } (s.set v (some (.int (a + i)))) Hc) (done : ∀ s Hc, I (b - a).toNat s Hc → u D s Hc) : tSeq (tFor (iRng2 (tCons ta (tCons tb tNil))) (gName v) tbd) u D σ H := st_seq (st_forR2 S ha hb hc I h0 turn done)
end
section
variable {B : Bn} {K : PySem.W.Frag} {δ δ' : List (Option PV)} {H : Hp} {te : TE} {D : Ends} {σ : L2.St} {u : TS}
theorem st_pushW {i : Nat} {p : Addr} {vs : List V} {ds : List PyData} {d : PyData} (S : SD B H σ δ) (wk : Weak δ δ') (ps : PS δ') (hi : δ[i]? = some (some (isP (.ref p)))) (hp : H p = some (.lst vs)) (hv : imAll K B ds vs H) (pl : plainAll ds = true) (pd : plain d = true) (hl : ds.length < sizeLine) (he : Ev Ex B te δ H (im K B d))
    (k : ∀ v H2, Ex H H2 → SD B (upd H2 p (.lst (vs ++ [v]))) σ δ' → imAll K B (ds ++ [d]) (vs ++ [v]) (upd H2 p (.lst (vs ++ [v]))) → D.nx σ (upd H2 p (.lst (vs ++ [v])))) : tDrop (tBM K "list" rAppend (tVar i) (tCons te tNil)) D σ H := by
  refine st_lmeth (R := Ex) S (ev_var hi) (ea_cons he ea_nil) (fun H1 r1 => ⟨_, r1 _ _ hp⟩) fun us H2 r2 S2 ⟨v, r, e, hq, e2⟩ => ?_
  subst e; cases (show r = [] from e2)
  have h2 := r2 _ _ hp
  have t := TK.upd (o := .lst (vs ++ [v])) h2
  refine ⟨p, vs, v, rfl, rfl, h2, by rw [imAll_len hv]; exact hl, k v H2 r2 ((S2.weak wk).tk (fun a b => ?_) t ps) (imAll_append (imAll_tk t _ _ pl (imAll_st (RB.of_ex r2) _ _ hv)) ⟨v, [], rfl, im_tk t _ _ pd hq, rfl⟩)⟩
  by_cases z : a = p
  · subst z; rw [upd_same]; exact fun q => nomatch q
  · rw [upd_ne z]; exact S2.ok a b
theorem st_extendW {i : Nat} {p : Addr} {vs : List V} {ds es : List PyData} (S : SD B H σ δ) (wk : Weak δ δ') (ps : PS δ') (hi : δ[i]? = some (some (isP (.ref p)))) (hp : H p = some (.lst vs)) (hv : imAll K B ds vs H) (pl : plainAll ds = true) (pe : plainAll es = true) (hl : ds.length + es.length ≤ sizeLine) (he : Ev Ex B te δ H (newL K B H es))
    (k : ∀ ws H2, Ex H H2 → SD B (upd H2 p (.lst (vs ++ ws))) σ δ' → imAll K B (ds ++ es) (vs ++ ws) (upd H2 p (.lst (vs ++ ws))) → D.nx σ (upd H2 p (.lst (vs ++ ws)))) : tDrop (tBM K "list" rExtend (tVar i) (tCons te tNil)) D σ H := by
  refine st_lmeth (R := Ex) S (ev_var hi) (ea_cons he ea_nil) (fun H1 r1 => ⟨_, r1 _ _ hp⟩) fun us H2 r2 S2 ⟨v, r, e, ⟨a, ws, ea, na, nb, ha, hw⟩, e2⟩ => ?_
  subst e ea; cases (show r = [] from e2)
  have h2 := r2 _ _ hp
  have t := TK.upd (o := .lst (vs ++ ws)) h2
  refine ⟨p, a, vs, ws, rfl, rfl, h2, ha, by rw [imAll_len hv, imAll_len hw]; exact hl, k ws H2 r2 ((S2.weak wk).tk (fun a b => ?_) t ps) (imAll_append (imAll_tk t _ _ pl (imAll_st (RB.of_ex r2) _ _ hv)) (imAll_tk t _ _ pe hw))⟩
  by_cases z : a = p
  · subst z; rw [upd_same]; exact fun q => nomatch q
  · rw [upd_ne z]; exact S2.ok a b
end
theorem pow_cnt {L : Nat} : ∀ {n m : Nat}, 1 ≤ m → m ≤ n → m * L ^ m ≤ cnt L n
  | 0, m, h1, h2 => by omega
  | n + 1, m, h1, h2 => by
    rw [cnt]
    rcases Nat.eq_or_lt_of_le h2 with e | e
    · rw [e]; omega
    · have := pow_cnt (L := L) h1 (show m ≤ n by omega); omega
theorem cnt_le {L : Nat} : ∀ {n m : Nat}, m ≤ n → cnt L m ≤ cnt L n
  | 0, m, h => by rw [Nat.le_zero.mp h]; exact Nat.le_refl _
  | n + 1, m, h => by
    rcases Nat.eq_or_lt_of_le h with e | e
    · rw [e]; exact Nat.le_refl _
    · rw [cnt]; have := cnt_le (L := L) (show m ≤ n by omega); omega
theorem pow_le {L n m : Nat} (h : 1 ≤ L) (hm : m ≤ n) : L ^ m ≤ L ^ n := Nat.pow_le_pow_right h hm
theorem dg_len (L : Nat) : ∀ k n, (dg L k n).length = k
  | 0, _ => rfl
  | k + 1, n => by rw [dg, List.length_append, dg_len L k]; rfl
theorem plain_tIs (xs : List (List Int)) : plainAll (xs.map tI) = true := plainAll_iff.mpr fun d hd => by obtain ⟨w, _, rfl⟩ := List.mem_map.mp hd; exact plain_tI _
end EL

set_option Elab.async false
set_option linter.all false
set_option maxRecDepth 100000
set_option maxHeartbeats 4000000
set_option autoImplicit false
namespace EL
open PySem PySem.Spec PyProof.Rows L2
section
variable {B : Bn} {K : PySem.W.Frag} {δ δ' : List (Option PV)} {H : Hp} {te : TE} {D : Ends} {σ : L2.St} {u : TS}
/-- own.extend(a new list); the own list is of B -/
theorem st_extendB {i : Nat} {p : Addr} {vs : List V} {es : List PyData} (S : SD B H σ δ) (hi : δ[i]? = some (some (isP (.ref p)))) (hb : B p) (hp : H p = some (.lst vs)) (hl : vs.length + es.length ≤ sizeLine) (he : Ev Ex B te δ H (newL K B H es))
    (k : ∀ ws H2, Ex H H2 → SD B (upd H2 p (.lst (vs ++ ws))) σ δ → imAll K B es ws (upd H2 p (.lst (vs ++ ws))) → RB B H (upd H2 p (.lst (vs ++ ws))) → D.nx σ (upd H2 p (.lst (vs ++ ws)))) : tDrop (tBM K "list" rExtend (tVar i) (tCons te tNil)) D σ H := by
  refine st_lmeth (R := Ex) S (ev_var hi) (ea_cons he ea_nil) (fun H1 r1 => ⟨_, r1 _ _ hp⟩) fun us H2 r2 S2 ⟨v, r, e, ⟨a, ws, ea, na, nb, ha, hw⟩, e2⟩ => ?_
  subst e ea; cases (show r = [] from e2)
  have h2 := r2 _ _ hp
  have rb := RB.updB (RB.refl H2) hb h2 (o := .lst (vs ++ ws))
  exact ⟨p, a, vs, ws, rfl, rfl, h2, ha, by rw [imAll_len hw]; exact hl, k ws H2 r2 (S2.mono rb) (imAll_st rb _ _ hw) ((RB.of_ex r2).trans rb)⟩
end
abbrev plus (B : Bn) (p : Addr) : Bn := fun a => B a ∨ a = p
theorem plus.ok {B : Bn} {p : Addr} {H : Hp} {xs : List V} (o : BOk B H) (h : H p = some (.lst xs)) : BOk (plus B p) H := fun a z => z.elim (o a) fun e => by rw [e, h]; exact fun q => nomatch q
/-! ### data of many words, shown -/
theorem showableAll_of : ∀ {ds : List PyData}, (∀ d ∈ ds, PyData.showable d = true) → PyData.showableAll ds = true
  | [], _ => by simp [PyData.showableAll]
  | d :: ds, h => by simp only [PyData.showableAll, h d (List.mem_cons_self ..), showableAll_of fun e he => h e (List.mem_cons_of_mem _ he), Bool.and_self]
theorem hasDictAll_of : ∀ {ds : List PyData}, (∀ d ∈ ds, PyData.hasDict d = false) → PyData.hasDictAll ds = false
  | [], _ => by simp [PyData.hasDictAll]
  | d :: ds, h => by simp only [PyData.hasDictAll, h d (List.mem_cons_self ..), hasDictAll_of fun e he => h e (List.mem_cons_of_mem _ he), Bool.or_self]
theorem leavesShortAll_of {n : Nat} : ∀ {ds : List PyData}, (∀ d ∈ ds, PyData.leavesShort n d = true) → PyData.leavesShortAll n ds = true
  | [], _ => by simp [PyData.leavesShortAll]
  | d :: ds, h => by simp only [PyData.leavesShortAll, h d (List.mem_cons_self ..), leavesShortAll_of fun e he => h e (List.mem_cons_of_mem _ he), Bool.and_self]
theorem weightAll_of {n : Nat} : ∀ {ds : List PyData}, (∀ d ∈ ds, PyData.weight d ≤ n) → PyData.weightAll ds ≤ (n + 1) * ds.length
  | [], _ => by simp [PyData.weightAll]
  | d :: ds, h => by
    have h1 := h d (List.mem_cons_self ..)
    have h2 := weightAll_of fun e he => h e (List.mem_cons_of_mem _ he)
    simp only [PyData.weightAll, List.length_cons]
    rw [Nat.mul_succ]
    omega
theorem shows_tup {ds : List PyData} {n m : Nat} (h1 : ∀ d ∈ ds, PyData.showable d = true) (h2 : ∀ d ∈ ds, PyData.hasDict d = false) (h3 : ∀ d ∈ ds, PyData.leavesShort 13 d = true) (h4 : ∀ d ∈ ds, PyData.weight d ≤ n) (h5 : ∀ d ∈ ds, PyData.depth d ≤ m) (hm : m ≤ 60) (hl : (n + 1) * ds.length ≤ 2 ^ 20) : Shows (.tuple ds) := by
  refine ⟨?_, ?_, ?_, ?_⟩
  · simp only [PyData.showable, showableAll_of h1]
  · simp only [PyData.hasDict, hasDictAll_of h2]
  · have := depthAll_of h5
    simp only [PyData.depth]
    omega
  · refine PyData.shown_fits (B := 13) (by decide) (by decide) ?_ ?_
    · simp only [PyData.leavesShort, leavesShortAll_of h3]
    · simp only [PyData.weight]
      exact Nat.le_trans (weightAll_of h4) hl
theorem shows_wds {ws : List (List Int × List Int)} (h : ∀ w ∈ ws, w.1.length + w.2.length ≤ 20 ∧ (∀ x ∈ w.1, 0 ≤ x ∧ x < 1000) ∧ ∀ x ∈ w.2, 0 ≤ x ∧ x < 1000) (hl : ws.length ≤ 4000) : Shows (.tuple (ws.map wdp)) := by
  have mem : ∀ {Pd : PyData → Prop}, (∀ w ∈ ws, Pd (wdp w)) → ∀ d ∈ ws.map wdp, Pd d := fun {Pd} z d hd => by obtain ⟨w, hw, rfl⟩ := List.mem_map.mp hd; exact z w hw
  refine shows_tup (n := 230) (m := 5) (mem fun w hw => ?_) (mem fun w hw => ?_) (mem fun w hw => ?_) (mem fun w hw => ?_) (mem fun w hw => depth_wd _ _) (by decide) ?_
  · obtain ⟨_, a, b⟩ := h w hw
    simp only [PyData.showable, PyData.showableAll, showableAll_small a, showableAll_small b, Bool.and_self]
  · simp only [PyData.hasDict, PyData.hasDictAll, hasDictAll_ints, Bool.or_self]
  · obtain ⟨_, a, b⟩ := h w hw
    simp only [PyData.leavesShort, PyData.leavesShortAll, leavesShortAll_small a, leavesShortAll_small b, Bool.and_self]
  · obtain ⟨l, a, b⟩ := h w hw
    have h1 := weightAll_small a
    have h2 := weightAll_small b
    simp only [PyData.weight, PyData.weightAll]
    omega
  · rw [List.length_map]
    have : (230 + 1) * ws.length ≤ 231 * 4000 := Nat.mul_le_mul_left _ hl
    have : (2 : Nat) ^ 20 = 1048576 := by decide
    omega
theorem eqvAll_wds : ∀ xs : List (List Int × List Int), PyData.eqvAll (xs.map wdp) (xs.map wdp) = true
  | [] => by simp [PyData.eqvAll]
  | x :: xs => by
    rw [List.map_cons, PyData.eqvAll, eqv_wd, eqvAll_wds xs]; simp
theorem filter_blk (L m k : Nat) : (blk L m k).filter isTold = (rowsI L k).flatMap fun b => ((rowsI L (m - k)).filter fun r => isTold (b, r)).map fun r => (b, r) := by
  unfold blk
  rw [List.filter_flatMap]
  congr 1
  funext b
  rw [List.filter_map]
  rfl
end EL

set_option Elab.async false
set_option linter.all false
set_option maxRecDepth 100000
set_option maxHeartbeats 4000000
set_option autoImplicit false
namespace EL
open PySem PySem.Spec PyProof.Rows L2
/-! ### words alike at all places -/
theorem per_eq {f g : Nat → Int} {M p q : Nat} (hp : 1 ≤ p) (hq : 1 ≤ q) (hf : Per f M p) (hg : Per g M q) (h : ∀ i, i < M + p * q → f i = g i) : f = g := funext fun n => by
  have pq : 1 ≤ p * q := Nat.mul_pos hp hq
  by_cases z : n < M + p * q
  · exact h n z
  · have f1 : Per f M (p * q) := hf.mul q
    have g1 : Per g M (p * q) := by rw [Nat.mul_comm]; exact hg.mul p
    have e : n = (M + (n - M) % (p * q)) + (p * q) * ((n - M) / (p * q)) := by have := Nat.mod_add_div (n - M) (p * q); omega
    have f2 := (f1.mul ((n - M) / (p * q))) (M + (n - M) % (p * q)) (by omega)
    have g2 := (g1.mul ((n - M) / (p * q))) (M + (n - M) % (p * q)) (by omega)
    rw [← e] at f2 g2
    rw [f2, g2]
    exact h _ (by have := Nat.mod_lt (n - M) pq; omega)
theorem alike_iff {b r b' r' : List Int} (hr : r ≠ []) (hr' : r' ≠ []) : (∀ i, i < max b.length b'.length + r.length * r'.length → sq b r i = sq b' r' i) ↔ sq b r = sq b' r' := by
  refine ⟨fun h => per_eq (M := max b.length b'.length) (List.length_pos_iff.mpr hr) (List.length_pos_iff.mpr hr') (sq_per _ (by omega)) (sq_per _ (by omega)) h, fun h i _ => by rw [h]⟩
theorem told_inj {b r b' r' : List Int} (hr : r ≠ []) (hr' : r' ≠ []) : told (sq b r) = told (sq b' r') ↔ sq b r = sq b' r' := by
  refine ⟨fun h => ?_, fun h => by rw [h]⟩
  rw [← sq_told hr, ← sq_told hr', h]
/-! ### rows rise -/
theorem lx_irr (xs : List Int) : lx xs xs = false := lx_self xs
theorem lx_asym : ∀ {xs ys : List Int}, lx xs ys = true → lx ys xs = false
  | [], _, h => by simp [lx] at h
  | _ :: _, [], h => by simp [lx] at h
  | x :: xs, y :: ys, h => by
    rw [lx] at h ⊢
    by_cases z : x = y
    · rw [if_pos z] at h
      rw [if_pos z.symm]
      exact lx_asym h
    · rw [if_neg z] at h
      rw [if_neg (fun e => z e.symm)]
      have := of_decide_eq_true h
      exact decide_eq_false (by omega)
abbrev lxP (a b : List Int) : Prop := lx a b = true
theorem rows_rise (L : Nat) : ∀ n, (rowsI L n).Pairwise lxP
  | 0 => by simp [rowsI]
  | n + 1 => by
    rw [rowsI, List.pairwise_flatMap]
    refine ⟨fun row _ => ?_, ?_⟩
    · rw [List.pairwise_map]
      refine List.Pairwise.imp ?_ (List.pairwise_lt_range (n := L))
      intro a b hab
      show lx (row ++ [(a : Int)]) (row ++ [(b : Int)]) = true
      rw [lx_app _ _ rfl, if_pos rfl, lx, if_neg (by omega)]
      exact decide_eq_true (by omega)
    · refine List.Pairwise.imp_of_mem ?_ (rows_rise L n)
      intro a b ha hb hab x hx y hy
      obtain ⟨i, _, rfl⟩ := List.mem_map.mp hx
      obtain ⟨j, _, rfl⟩ := List.mem_map.mp hy
      show lx _ _ = true
      rw [lx_app _ _ (by rw [(rowsI_mem ha).1, (rowsI_mem hb).1]), if_neg]
      · exact hab
      · intro e
        have : lx a b = true := hab
        rw [e, lx_self] at this
        cases this
abbrev ahP (a b : List Int × List Int) : Prop := aheadB a.1 a.2 b.1 b.2 = true
theorem blk_rise (L m k : Nat) (hk : k < m) : (blk L m k).Pairwise ahP := by
  unfold blk
  rw [List.pairwise_flatMap]
  refine ⟨fun b hb => ?_, ?_⟩
  · rw [List.pairwise_map]
    refine List.Pairwise.imp_of_mem ?_ (rows_rise L (m - k))
    intro r r' hr hr' h
    show aheadB b r b r' = true
    unfold aheadB
    rw [if_pos (by rw [(rowsI_mem hr).1, (rowsI_mem hr').1]), if_pos rfl, lx_app _ _ rfl, if_pos rfl]
    exact h
  · refine List.Pairwise.imp_of_mem ?_ (rows_rise L k)
    intro b b' hb hb' h x hx y hy
    obtain ⟨r, hr, rfl⟩ := List.mem_map.mp hx
    obtain ⟨r', hr', rfl⟩ := List.mem_map.mp hy
    show aheadB b r b' r' = true
    have l1 := (rowsI_mem hb).1; have l2 := (rowsI_mem hb').1; have l3 := (rowsI_mem hr).1; have l4 := (rowsI_mem hr').1
    unfold aheadB
    rw [if_pos (by omega), if_pos (by omega), lx_app _ _ (by omega), if_neg]
    · exact h
    · intro e
      have : lx b b' = true := h
      rw [e, lx_self] at this
      cases this
theorem lay_rise (L m : Nat) : (lay L m).Pairwise ahP := by
  unfold lay
  rw [List.pairwise_flatMap]
  refine ⟨fun k hk => ?_, ?_⟩
  · rw [List.mem_range] at hk
    exact (blk_rise L m k hk).filter _
  · refine List.Pairwise.imp_of_mem ?_ (List.pairwise_lt_range (n := m))
    intro k k' hk hk' h x hx y hy
    rw [List.mem_range] at hk hk'
    have g1 := blk_mem hk (List.mem_filter.mp hx).1
    have g2 := blk_mem hk' (List.mem_filter.mp hy).1
    show aheadB _ _ _ _ = true
    unfold aheadB
    rw [if_pos (by omega), if_neg (by omega)]
    exact decide_eq_true (by omega)
theorem due_rise (L n : Nat) : (due L n).Pairwise ahP := by
  unfold due
  rw [List.pairwise_flatMap]
  refine ⟨fun k _ => lay_rise L (k + 1), ?_⟩
  refine List.Pairwise.imp ?_ (List.pairwise_lt_range (n := n))
  intro k k' h x hx y hy
  have g1 := lay_mem hx
  have g2 := lay_mem hy
  show aheadB _ _ _ _ = true
  unfold aheadB
  rw [if_neg (by omega)]
  exact decide_eq_true (by omega)
theorem ah_irr (a : List Int × List Int) : aheadB a.1 a.2 a.1 a.2 = false := by unfold aheadB; rw [if_pos rfl, if_pos rfl, lx_self]
theorem ah_asym {a b : List Int × List Int} (h : aheadB a.1 a.2 b.1 b.2 = true) : aheadB b.1 b.2 a.1 a.2 = false := by
  unfold aheadB at h ⊢
  by_cases z : a.1.length + a.2.length = b.1.length + b.2.length
  · rw [if_pos z] at h
    rw [if_pos z.symm]
    by_cases y : a.1.length = b.1.length
    · rw [if_pos y] at h
      rw [if_pos y.symm]
      exact lx_asym h
    · rw [if_neg y] at h
      rw [if_neg (fun e => y e.symm)]
      have := of_decide_eq_true h
      exact decide_eq_false (by omega)
  · rw [if_neg z] at h
    rw [if_neg (fun e => z e.symm)]
    have := of_decide_eq_true h
    exact decide_eq_false (by omega)
/-- in a rising list those ahead of one stand before it -/
theorem rise_index : ∀ {ws : List (List Int × List Int)} {w : List Int × List Int}, ws.Pairwise ahP → w ∈ ws → ∃ n, n < ws.length ∧ ws[n]? = some w ∧ (∀ j, j < n → ws[j]? ≠ some w) ∧ (ws.filter fun v => aheadB v.1 v.2 w.1 w.2).length = n
  | [], w, _, h => nomatch h
  | v :: ws, w, hp, h => by
    rw [List.pairwise_cons] at hp
    by_cases e : v = w
    · refine ⟨0, Nat.zero_lt_succ _, by rw [e]; rfl, fun j hj => by omega, ?_⟩
      rw [List.filter_cons_of_neg (by rw [e, ah_irr]; exact Bool.false_ne_true), List.filter_eq_nil_iff.mpr, List.length_nil]
      intro x hx
      have := hp.1 x hx
      rw [e] at this
      rw [ah_asym this]
      exact Bool.false_ne_true
    · have hw : w ∈ ws := by
        rcases List.mem_cons.mp h with z | z
        · exact absurd z.symm e
        · exact z
      obtain ⟨n, h1, h2, h3, h4⟩ := rise_index hp.2 hw
      refine ⟨n + 1, by rw [List.length_cons]; omega, by rw [List.getElem?_cons_succ]; exact h2, fun j hj => ?_, ?_⟩
      · cases j with
        | zero => rw [List.getElem?_cons_zero]; exact fun z => e (Option.some.inj z)
        | succ j => rw [List.getElem?_cons_succ]; exact h3 j (by omega)
      · have q : aheadB v.1 v.2 w.1 w.2 = true := hp.1 w hw
        rw [List.filter_cons]
        simp only [q, if_true]
        rw [List.length_cons, h4]
/-- each row of letters is there -/
theorem rowsI_all {L : Nat} : ∀ {row : List Int}, (∀ x ∈ row, 0 ≤ x ∧ x < (L : Int)) → row ∈ rowsI L row.length := by
  intro row
  generalize hn : row.length = n
  induction n generalizing row with
  | zero => intro _; rw [List.length_eq_zero_iff.mp hn, rowsI]; exact List.mem_singleton.mpr rfl
  | succ n ih =>
    intro h
    rcases List.eq_nil_or_concat row with e | ⟨c, x, e⟩
    · rw [e] at hn; cases hn
    · rw [List.concat_eq_append] at e
      subst e
      rw [List.length_append] at hn
      have hx := h x (List.mem_append_right _ (List.mem_singleton.mpr rfl))
      rw [rowsI]
      refine List.mem_flatMap.mpr ⟨c, ih (by simp at hn; omega) fun y hy => h y (List.mem_append_left _ hy), List.mem_map.mpr ⟨x.toNat, List.mem_range.mpr (by omega), ?_⟩⟩
      rw [Int.toNat_of_nonneg hx.1]
theorem due_all {L n : Nat} {b r : List Int} (hr : r ≠ []) (hb : ∀ x ∈ b, 0 ≤ x ∧ x < (L : Int)) (hr2 : ∀ x ∈ r, 0 ≤ x ∧ x < (L : Int)) (ht : told (sq b r) = (b, r)) (hn : b.length + r.length ≤ n) : (b, r) ∈ due L n := by
  have rp : 1 ≤ r.length := List.length_pos_iff.mpr hr
  refine List.mem_flatMap.mpr ⟨b.length + r.length - 1, List.mem_range.mpr (by omega), ?_⟩
  rw [show b.length + r.length - 1 + 1 = b.length + r.length by omega]
  refine List.mem_flatMap.mpr ⟨b.length, List.mem_range.mpr (by omega), List.mem_filter.mpr ⟨List.mem_flatMap.mpr ⟨b, rowsI_all hb, List.mem_map.mpr ⟨r, ?_, rfl⟩⟩, decide_eq_true ht⟩⟩
  rw [show b.length + r.length - b.length = r.length by omega]
  exact rowsI_all hr2
end EL

set_option Elab.async false
set_option linter.all false
set_option maxRecDepth 100000
set_option maxHeartbeats 4000000
set_option autoImplicit false
namespace EL
open PySem PySem.Spec PyProof.Rows L2
theorem op_inDK {X : Cx} (K : PySem.W.Frag) (hu : X.A.units + 66 < cLine) (h : X.K = K := by rfl) : OpR X (compareOp .In) (rInD K) := h ▸ op_inD (by omega)
theorem op_notInDK {X : Cx} (K : PySem.W.Frag) (hu : X.A.units + 66 < cLine) (h : X.K = K := by rfl) : OpR X (compareOp .NotIn) (rNotInD K) := h ▸ op_notInD (by omega)
theorem mt_indexDK {X : Cx} (K : PySem.W.Frag) (hu : X.A.units + 66 < cLine) (h : X.K = K := by rfl) : MtR X "list.index" (rIndexD K) := h ▸ mt_indexD (by omega)
section
variable {R : Hp → Hp → Prop} {B : Bn} [rk : Rok B R] {K : PySem.W.Frag} {δ : List (Option PV)} {H : Hp} {ta te tb : TE}
theorem ev_inD {d : PyData} {ds : List PyData} (ha : Ev R B ta δ H (im K B d)) (hb : Ev R B tb δ H (im K B (.list ds))) (h1 : SeqAt.shaped d = true) (h2 : SeqAt.shaped (.list ds) = true) : Ev R B (tOp (rInD K) ta tb) δ H (im K B (.bool (ds.any fun z => PyData.eqv z d))) :=
  ev_op ha hb fun x y H1 _ _ hx hy Q k => ⟨d, ds, im_dp _ _ hx, im_dp _ _ hy, h1, h2, k _ H1 (Ex.refl H1) rfl⟩
theorem ev_notInD {d : PyData} {ds : List PyData} (ha : Ev R B ta δ H (im K B d)) (hb : Ev R B tb δ H (im K B (.list ds))) (h1 : SeqAt.shaped d = true) (h2 : SeqAt.shaped (.list ds) = true) : Ev R B (tOp (rNotInD K) ta tb) δ H (im K B (.bool (!ds.any fun z => PyData.eqv z d))) :=
  ev_op ha hb fun x y H1 _ _ hx hy Q k => ⟨d, ds, im_dp _ _ hx, im_dp _ _ hy, h1, h2, k _ H1 (Ex.refl H1) rfl⟩
theorem ev_indexD {d z : PyData} {ds : List PyData} {j : Nat} (ha : Ev R B ta δ H (im K B (.list ds))) (hb : Ev R B tb δ H (im K B d)) (h1 : SeqAt.shaped (.list ds) = true) (h2 : SeqAt.shaped d = true) (h3 : ds[j]? = some z) (h4 : PyData.eqv z d = true) (h5 : ∀ (m : Nat) (z' : PyData), m < j → ds[m]? = some z' → PyData.eqv z' d = false) :
    Ev R B (tBM K "list" (rIndexD K) ta (tCons tb tNil)) δ H (im K B (.int (j : Nat))) := fun σ H1 r1 S Q k => ha σ H1 r1 S _ fun x H2 r2 hx => by
  obtain ⟨a, vs, ex, nb, s, hv⟩ := id hx
  subst ex
  refine ⟨.inl ⟨rfl, vs, s⟩, ea_cons (ps := []) hb ea_nil σ H2 (rk.tr r1 r2) (S.mono (rk.rb r2)) _ fun us H3 r3 ⟨y, r, e, hy, e2⟩ => ?_⟩
  subst e; cases (show r = [] from e2)
  exact ⟨a, y, d, ds, j, z, rfl, rfl, im_dp _ _ (im_st (rk.rb r3) _ _ hx), im_dp _ _ hy, h1, h2, h3, h4, h5, k _ H3 (rk.tr r2 r3) rfl⟩
theorem ev_intB {b : Bool} (ha : Ev R B ta δ H (im K B (.bool b))) : Ev R B (tCB (fun xs H Q => (∃ i, xs = [.int i] ∧ Q (.int i) H) ∨ ∃ k, xs = [.bl k] ∧ Q (.int (if k then 1 else 0)) H) (tCons ta tNil)) δ H (im K B (.int (if b then 1 else 0))) :=
  ev_cb (ea_cons ha ea_nil) fun vs H1 _ _ ⟨v, r, e, h1, e3⟩ Q k => by
    subst e; cases (show r = [] from e3)
    rw [show v = _ from h1]
    exact .inr ⟨b, rfl, k _ H1 (rk.rf H1) rfl⟩
theorem ev_mulN {C : Int → Prop} {j : Int} (ha : Ev R B ta δ H (intP C)) (hb : Ev R B tb δ H (im K B (.int j))) (hc : ∀ i, C i → -(2 ^ 64) < i ∧ i < 2 ^ 64) : Ev R B (tOp (rMulU K) ta tb) δ H (intP fun k => ∃ i, C i ∧ k = i * j) :=
  ev_op ha hb fun x y H1 _ _ ⟨i, c, hx⟩ hy Q k => .inl ⟨i, j, hx, hy, .inl (hc i c), k _ H1 (Ex.refl H1) ⟨i * j, ⟨i, c, rfl⟩, rfl⟩⟩
end
theorem any_wds {ws : List (List Int × List Int)} {w : List Int × List Int} (h : w ∈ ws) : ((ws.map wdp).any fun z => PyData.eqv z (wdp w)) = true := by
  rw [List.any_map, List.any_eq_true]
  exact ⟨w, h, by show PyData.eqv (wdp w) (wdp w) = true; rw [eqv_wd]; simp⟩
end EL

set_option Elab.async false
set_option linter.all false
set_option maxRecDepth 100000
set_option maxHeartbeats 4000000
set_option autoImplicit false
namespace EL
open PySem PySem.Spec PyProof.Rows L2
section
variable {B : Bn} {h l : Addr} [hs : Has B h l] {K : PySem.W.Frag} {δ : List (Option PV)} {H : Hp} {te : TE} {D : Ends} {σ : L2.St}
/-- own.append(what the hand gives) -/
theorem st_pushH {α : Type} {C : α → Prop} {g : α → PyData} {i : Nat} {p : Addr} {vs : List V} {ds : List PyData} (S : SD B H σ δ) (ps : PS δ) (hi : δ[i]? = some (some (isP (.ref p)))) (nb : ¬ B p) (hp : H p = some (.lst vs)) (hv : imAll K B ds vs H) (pl : plainAll ds = true) (pd : ∀ a, plain (g a) = true) (hl : ds.length < sizeLine) (he : Ev (Rh h l) B te δ H (exP C fun a => im K B (g a)))
    (k : ∀ a v H2, C a → Rh h l H H2 → SD B (upd H2 p (.lst (vs ++ [v]))) σ δ → imAll K B (ds ++ [g a]) (vs ++ [v]) (upd H2 p (.lst (vs ++ [v]))) → D.nx σ (upd H2 p (.lst (vs ++ [v])))) : tDrop (tBM K "list" rAppend (tVar i) (tCons te tNil)) D σ H := by
  refine st_lmeth (R := Rh h l) S (ev_var hi) (ea_cons he ea_nil) (fun H1 r1 => ⟨_, (Rok.rb (B := B) r1).keep _ _ nb hp⟩) fun us H2 r2 S2 ⟨v, r, e, ⟨a, c, hq⟩, e2⟩ => ?_
  subst e; cases (show r = [] from e2)
  have rb : RB B H H2 := Rok.rb r2
  have h2 := rb.keep _ _ nb hp
  have t := TK.upd (o := .lst (vs ++ [v])) h2
  refine ⟨p, vs, v, rfl, rfl, h2, by rw [imAll_len hv]; exact hl, k a v H2 c r2 (S2.tk (fun a b => ?_) t ps) (imAll_append (imAll_tk t _ _ pl (imAll_st rb _ _ hv)) ⟨v, [], rfl, im_tk t _ _ (pd a) hq, rfl⟩)⟩
  by_cases z : a = p
  · subst z; rw [upd_same]; exact fun q => nomatch q
  · rw [upd_ne z]; exact S2.ok a b
end
theorem told_shift {b r : List Int} (hr : r ≠ []) (k : Nat) : sq (told (shift (sq b r) k)).1 (told (shift (sq b r) k)).2 = shift (sq b r) k ∧ (told (shift (sq b r) k)).2 ≠ [] := by
  have rp : 1 ≤ r.length := List.length_pos_iff.mpr hr
  have key : ∀ {c d : List Int}, d ≠ [] → sq c d = shift (sq b r) k → sq (told (shift (sq b r) k)).1 (told (shift (sq b r) k)).2 = shift (sq b r) k ∧ (told (shift (sq b r) k)).2 ≠ [] := fun {c d} hd e => by
    rw [← e]; exact ⟨sq_told hd, (told_len (b := c) hd).2.2⟩
  by_cases z : k ≤ b.length
  · exact key hr (sq_drop z)
  · have hm := Nat.mod_lt (k - b.length) rp
    refine key (fun e => ?_) (sq_rot (b := b) hr (by omega))
    have := rot_len' hm
    rw [e] at this
    simp only [List.length_nil] at this
    omega
theorem told_told {b r : List Int} (hr : r ≠ []) : told (sq (told (sq b r)).1 (told (sq b r)).2) = told (sq b r) := by rw [sq_told hr]
theorem due_told {L n : Nat} {w : List Int × List Int} (h : w ∈ due L n) : told (sq w.1 w.2) = w := by
  obtain ⟨m, _, h⟩ := List.mem_flatMap.mp h
  obtain ⟨k, _, h⟩ := List.mem_flatMap.mp h
  exact of_decide_eq_true (List.mem_filter.mp h).2
end EL

set_option Elab.async false
set_option linter.all false
set_option maxRecDepth 100000
set_option maxHeartbeats 4000000
set_option autoImplicit false
namespace EK
open PySem PySem.Spec PyProof.Rows L2 EL
def top (i : Nat) : Stmt := PySem.Challenge.pw_endlesshall_k07_whole_the_same_words.main.body.getD i (.Pass ⟨0, 0, 0, 0⟩)
abbrev s__law_pick : Stmt := top 11
abbrev N__law_pick : List Str := ["_law_hand_here", "_law_many", "_law_digit", "_law_mixed"]
theorem sc__law_pick : FnScope N__law_pick ["_law_hand_here", "_law_many"] (defScope s__law_pick) := ⟨rfl, rfl, rfl, by decide +kernel, rfl, by decide +kernel, by decide +kernel⟩
abbrev s__law_hand : Stmt := top 10
abbrev N__law_hand : List Str := ["_law_script", "_law_seed", "_law_cell"]
theorem sc__law_hand : FnScope N__law_hand ["_law_script"] (defScope s__law_hand) := ⟨rfl, rfl, rfl, by decide +kernel, rfl, by decide +kernel, by decide +kernel⟩

theorem ixN_0 {n : Nat} (h : 0 < n) : ixN n 0 = some 0 := by
  unfold ixN
  rw [if_pos (by omega), if_pos (by omega)]
  rfl
structure Hs (h l : Addr) (H0 Hc : Hp) (cs : List Int) (seed : Int) : Prop where
  ne : h ≠ l
  rb : RB (hB h l) H0 Hc
  top : Hc h = some (.lst [.ref l, .int seed])
  s0 : 0 ≤ seed
  s1 : seed < big61
  cel : Hc l = some (.lst (cs.map .int))
  pos : ∀ c ∈ cs, 0 ≤ c
  len : cs.length ≤ 63
theorem Hs.ex {h l : Addr} {H0 Hc Hd : Hp} {cs : List Int} {seed : Int} (s : Hs h l H0 Hc cs seed) (e : Ex Hc Hd) : Hs h l H0 Hd cs seed :=
  ⟨s.ne, s.rb.trans (RB.of_ex e), e _ _ s.top, s.s0, s.s1, e _ _ s.cel, s.pos, s.len⟩
theorem Hs.rh {h l : Addr} {H0 Hc : Hp} {cs : List Int} {seed : Int} (s : Hs h l H0 Hc cs seed) : Rh h l H0 Hc := ⟨s.rb, fun _ => ⟨s.ne, ⟨seed, s.top, s.s0, s.s1⟩, ⟨cs, s.cel, s.pos, s.len⟩⟩⟩
theorem Hs.cut {h l : Addr} {H0 Hc : Hp} {cs ds : List Int} {seed : Int} (s : Hs h l H0 Hc cs seed) (hp : ∀ c ∈ ds, 0 ≤ c) (hl : ds.length ≤ 63) : Hs h l H0 (upd Hc l (.lst (ds.map .int))) ds seed :=
  ⟨s.ne, RB.updB s.rb (.inr rfl) s.cel, by rw [upd_ne s.ne]; exact s.top, s.s0, s.s1, upd_same, hp, hl⟩
theorem Hs.seed {h l : Addr} {H0 Hc : Hp} {cs : List Int} {seed z : Int} (s : Hs h l H0 Hc cs seed) (h0 : 0 ≤ z) (h1 : z < big61) : Hs h l H0 (upd Hc h (.lst [.ref l, .int z])) cs z :=
  ⟨s.ne, RB.updB s.rb (.inl rfl) s.top, upd_same, h0, h1, by rw [upd_ne s.ne.symm]; exact s.cel, s.pos, s.len⟩
theorem Hs.of {h l : Addr} {H : Hp} (k : HandOk h l H) : ∃ cs seed, Hs h l H H cs seed := by
  obtain ⟨n, ⟨s, e1, b1, b2⟩, ⟨cs, e2, b3, b4⟩⟩ := k
  exact ⟨cs, s, n, RB.refl H, e1, b1, b2, e2, b3, b4⟩
section
variable {P : Program} {w : World} {K : PySem.W.Frag} {mg : Str → Option Value} {base : Heap}
theorem ok_pick {f : Addr} {fd : FuncData} {k : Nat} (F : FnP K "_law_pick" s__law_pick f fd) : FnOk P w K mg base CX0 (k + 1) f fd ["_law_hand_here", "_law_many"] spPick := by
  refine F.ok sc__law_pick (fun vs H Q E h => ?_) (fun cdv A outer s H vs Q E hr h => ⟨_, PSs.nox (pss_cons (ps_while PassesOwn.never (PW.pt (pw_and (pt_cmpR (op_neK K hr.units) (pe_ix (ix_seqK K) (pv 0) pe_int (fun _ _ => rfl)) (pe_lst pa_nil) (nomark _)) (pw_and1 (pt_cmpR (op_eqK K hr.units) (pe_ix (ix_seqK K) (pe_ix (ix_seqK K) (pv 0) pe_int (fun _ _ => rfl)) pe_int (fun _ _ => rfl)) pe_int (nomark _)))))
 (pss_one (ps_expr (pe_bm PySem.F.plainAttrs_list PySem.F.slot_list_pop PySem.F.type_list_pop mt_popAt (pe_ix (ix_seqK K) (pv 0) pe_int (fun _ _ => rfl)) (pa_cons pe_int pa_nil)))))
 (pss_cons (ps_if (pt_cmpR (op_neK K hr.units) (pe_ix (ix_seqK K) (pv 0) pe_int (fun _ _ => rfl)) (pe_lst pa_nil) (nomark _))
 (pss_cons (ps_set (i := 2) sc__law_pick.nd rfl (.inl rfl) (pe_op op_modN (pe_ix (ix_seqK K) (pe_ix (ix_seqK K) (pv 0) pe_int (fun _ _ => rfl)) pe_int (fun _ _ => rfl)) (pv 1)))
 (pss_cons (ps_asg (pe_op op_fdivN (pe_ix (ix_seqK K) (pe_ix (ix_seqK K) (pv 0) pe_int (fun _ _ => rfl)) pe_int (fun _ _ => rfl)) (pv 1)) (pg_sub (pe_ix (ix_seqK K) (pv 0) pe_int (fun _ _ => rfl)) pe_int set_list))
 (pss_one (ps_ret (pv 2)))))
 pss_nil)
 (pss_cons (ps_asg (pe_op op_modN (pe_op (op_addK K) (pe_op (op_mulK K) (pe_ix (ix_seqK K) (pv 0) pe_int (fun _ _ => rfl)) pe_int) pe_int) pe_int) (pg_sub (pv 0) pe_int set_list))
 (pss_cons (ps_set (i := 3) sc__law_pick.nd rfl (.inl rfl) (pe_op op_fdivN (pe_ix (ix_seqK K) (pv 0) pe_int (fun _ _ => rfl)) pe_int))
 (pss_one (ps_ret (pe_op op_modN (pe_op op_fdivN (pe_op op_modN (pe_op (op_mulK K) (pv 3) (pe_op (op_addK K) (pe_op op_modN (pv 3) pe_int) pe_int)) pe_int) pe_int) (pv 1)))))))), ?_⟩)
  · obtain ⟨h, l, m, rfl, _⟩ := h
    rfl
  obtain ⟨h, l, m, rfl, hk, m1, m2, q⟩ := h
  obtain ⟨cs, seed, hs⟩ := Hs.of hk
  have S0 : SD (hB h l) H (start N__law_pick [.ref h, .int m]) [some (isP (.ref h)), some (im K (hB h l) (.int m)), none, none] :=
    ⟨hk.bok, rfl, fun i p e => by
      match i, e with
      | 0, e => cases e; exact ⟨inferInstance, _, rfl, rfl⟩
      | 1, e => cases e; exact ⟨inferInstance, _, rfl, rfl⟩
      | 2, e => cases e
      | 3, e => cases e
      | i + 4, e => simp at e⟩
  generalize start N__law_pick [.ref h, .int m] = σ at S0
  have ne0 : ∀ {Hc : Hp} {cs : List Int} {sd : Int}, Hs h l H Hc cs sd → EvT Ex (hB h l) (tTest (tOp (rNeU K) (tOp (rIx K) (tVar 0) (tC (.int 0))) (tLst tNil))) [some (isP (.ref h)), some (im K (hB h l) (.int m)), none, none] Hc (!cs.isEmpty) := fun {Hc cs sd} s =>
    et_test (ev_neNil (ev_ixE (ev_var rfl) ev_int s.top rfl) s.cel)
  -- the while
  refine st_seq (st_while (R := Ex) (B := hB h l) (fun n s Hc => SD (hB h l) Hc s [some (isP (.ref h)), some (im K (hB h l) (.int m)), none, none] ∧ ∃ cs, Hs h l H Hc cs seed ∧ n = cs.length) cs.length ⟨S0, cs, hs, rfl⟩ fun n s Hc ⟨S, cs, hs, en⟩ => ?_)
  cases cs with
  | nil =>
    refine ⟨_, false, S, (et_and (ne0 hs) (b := false) fun z => by cases z).is rfl, fun z => (by cases z), fun _ H1 r1 S1 => ?_⟩
    have hs := hs.ex r1
    refine st_seq (st_if (R := Ex) S1 (ne0 hs) (fun z => by cases z) fun _ H2 r2 S2 => ?_)
    have hs := hs.ex r2
    refine st_seq (st_setitem (R := Ex) (B := hB h l) (K := K) S2 (ev_mod (ev_add (ev_mul (ev_ixE (ev_var rfl) ev_int hs.top rfl) ev_int (.inr (by decide))) ev_int) ev_int (by decide)) (ev_var rfl) ev_int fun v H3 r3 S3 e3 => ?_)
    have hs := hs.ex r3
    refine ⟨_, 1, hs.top, rfl, ?_⟩
    have e3 : v = _ := e3
    rw [Int.fmod_eq_emod_of_nonneg _ (by decide)] at e3
    subst e3
    have S4 := S3.mono (RB.updB (RB.refl H3) (.inl rfl) hs.top (o := .lst [.ref l, .int ((seed * 3935559000370003 + 2691343689449507) % 2305843009213693951)]))
    have hs := hs.seed (z := (seed * 3935559000370003 + 2691343689449507) % 2305843009213693951) (Int.emod_nonneg _ (by decide)) (Int.emod_lt_of_pos _ (by decide))
    generalize (seed * 3935559000370003 + 2691343689449507) % 2305843009213693951 = z at hs S4
    refine st_seq (st_set (R := Ex) S4 (ev_fdiv (K := K) (ev_ixE (ev_var rfl) ev_int hs.top rfl) ev_int ⟨by decide, by decide⟩) fun s5 H5 r5 S5 => ?_)
    have hs := hs.ex r5
    have hz : 0 ≤ z.fdiv 65537 ∧ z.fdiv 65537 < 2 ^ 64 := by
      rw [Int.fdiv_eq_ediv_of_nonneg _ (by decide)]
      have := hs.s0; have := hs.s1
      simp only [big61] at this
      omega
    refine st_ret (R := Ex) S5 (ev_mod (ev_fdiv (ev_mod (ev_mul (ev_var rfl) (ev_add (ev_mod (ev_var rfl) ev_int (by decide)) ev_int) (.inl ⟨by omega, hz.2⟩)) ev_int (by decide)) ev_int ⟨by decide, by decide⟩) (ev_var rfl) (by omega)) fun v H6 r6 e6 => ?_
    have e6 : v = _ := e6
    rw [Int.fmod_eq_emod_of_nonneg _ (show 0 ≤ m by omega)] at e6
    subst e6
    exact q _ _ (Int.emod_nonneg _ (by omega)) (Int.emod_lt_of_pos _ (by omega)) (hs.ex r6).rh
  | cons c r =>
    have top0 : ∀ {Hc : Hp} {c : Int} {r : List Int}, Hs h l H Hc (c :: r) seed → Ev Ex (hB h l) (tOp (rIx K) (tOp (rIx K) (tVar 0) (tC (.int 0))) (tC (.int 0))) [some (isP (.ref h)), some (im K (hB h l) (.int m)), none, none] Hc (im K (hB h l) (.int c)) := fun {Hc c r} s => ev_ixE (ev_ixE (ev_var rfl) ev_int s.top rfl) ev_int s.cel (atI_nat (j := 0) rfl)
    refine ⟨_, decide (c = 0), S, (et_and (ne0 hs) fun _ => et_test (ev_eqI (top0 hs) ev_int)).is rfl, fun hc H1 r1 S1 => ?_, fun hc H1 r1 S1 => ?_⟩
    · have hs := hs.ex r1
      refine st_lmeth (R := Ex) (B := hB h l) S1 (ev_ixE (ev_var rfl) ev_int hs.top rfl) (ea_cons (ev_int (K := K)) ea_nil) (fun H2 r2 => ⟨_, (hs.ex r2).cel⟩) fun vs H2 r2 S2 pv => ?_
      obtain ⟨v, r', e, e2, e3⟩ := pv
      cases (show v = _ from e2); cases (show r' = [] from e3); subst e
      have hs := hs.ex r2
      refine ⟨l, _, 0, 0, .int c, rfl, rfl, hs.cel, by decide, by decide, (ixN_seq (ixN_0 (by rw [List.length_map]; exact Nat.succ_pos _))).1, rfl, ?_⟩
      refine ⟨r.length, by rw [en, List.length_cons]; omega, S2.mono (RB.updB (RB.refl H2) (.inr rfl) hs.cel), r, ?_, rfl⟩
      exact hs.cut (fun x hx => hs.pos x (List.mem_cons_of_mem _ hx)) (by have := hs.len; rw [List.length_cons] at this; omega)
    · have hs := hs.ex r1
      refine st_seq (st_if (R := Ex) S1 (ne0 hs) (fun _ H2 r2 S2 => ?_) fun z => by cases z)
      have hs := hs.ex r2
      refine st_seq (st_set (R := Ex) S2 (ev_mod (K := K) (top0 hs) (ev_var rfl) (by omega)) fun s3 H3 r3 S3 => ?_)
      have hs := hs.ex r3
      refine st_seq (st_setitem (R := Ex) (B := hB h l) (K := K) S3 (ev_fdiv (ev_ixE (ev_ixE (ev_var rfl) ev_int hs.top rfl) ev_int hs.cel (atI_nat (j := 0) rfl)) (ev_var rfl) ⟨by omega, by omega⟩) (ev_ixE (ev_var rfl) ev_int hs.top rfl) ev_int fun v H4 r4 S4 e4 => ?_)
      have hs := hs.ex r4
      cases (show v = _ from e4)
      have hc0 : 0 ≤ c := hs.pos c List.mem_cons_self
      refine ⟨_, 0, hs.cel, ixN_0 (by rw [List.length_map]; exact Nat.succ_pos _), ?_⟩
      have S5 := S4.mono (RB.updB (RB.refl H4) (.inr rfl) hs.cel (o := .lst (((c.fdiv m) :: r).map .int)))
      have hs := hs.cut (ds := (c.fdiv m) :: r) (fun x hx => by
        rcases List.mem_cons.mp hx with rfl | hx
        · rw [Int.fdiv_eq_ediv_of_nonneg _ (show 0 ≤ m by omega)]
          exact Int.ediv_nonneg hc0 (by omega)
        · exact hs.pos x (List.mem_cons_of_mem _ hx)) (by have := hs.len; rw [List.length_cons] at this ⊢; exact this)
      refine st_ret (R := Ex) S5 (ev_var rfl) fun v H6 r6 e6 => ?_
      have e6 : v = _ := e6
      rw [Int.fmod_eq_emod_of_nonneg _ (show 0 ≤ m by omega)] at e6
      subst e6
      exact q _ _ (Int.emod_nonneg _ (by omega)) (Int.emod_lt_of_pos _ (by omega)) (hs.ex r6).rh
theorem cut63 {ns : List Int} (h : ns.length ≤ 63) : cut (ns.map PyData.int) none (some 63) = ns.map .int := by
  rw [show (63 : Int) = ((63 : Nat) : Int) from rfl, cut_upto, List.take_of_length_le (by rw [List.length_map]; exact h)]
theorem getD_int {ns : List Int} {i : Nat} (h : i < ns.length) : (ns.map PyData.int).getD i .none = .int (ns.getD i 0) := by
  rw [List.getD_eq_getElem?_getD, List.getElem?_map, List.getElem?_eq_getElem h, List.getD_eq_getElem?_getD, List.getElem?_eq_getElem h]
  rfl
theorem ok_hand {f : Addr} {fd : FuncData} {k : Nat} (F : FnP K "_law_hand" s__law_hand f fd) : FnOk P w K mg base CX0 (k + 1) f fd ["_law_script"] (spHand K) := by
  refine F.ok sc__law_hand (fun vs H Q E h => ?_) (fun cdv A outer s H vs Q E hr h => ⟨_, PSs.nox (pss_cons (ps_set (i := 1) sc__law_hand.nd rfl (.inl rfl) pe_int)
 (pss_cons (ps_for PassesOwn.never rfl (pi_seqK K (pe_slice (sl_seqK K) (pv 0) po_none (po_some pe_int))) (pg_name (i := 2) sc__law_hand.nd rfl (.inl rfl))
 (pss_one (ps_set (i := 1) sc__law_hand.nd rfl (.inl rfl) (pe_op op_modN (pe_op (op_addK K) (pe_op (op_addK K) (pe_op (op_mulK K) (pv 1) pe_int) (pe_op op_modN (pv 2) pe_int)) pe_int) pe_int))))
 (pss_one (ps_ret (pe_lst (pa_cons (pe_lc (own := [("_law_cell", 2)]) (by rfl) sc__law_hand.nd (pi_seqK K (pe_slice (sl_seqK K) (pv 0) po_none (po_some pe_int))) (blkOk_by (own := [("_law_cell", 2)]) (N := N__law_hand) (sc := defScope s__law_hand) (by decide +kernel)) (fun _ _ _ _ _ => (pg_name (i := 2) sc__law_hand.nd rfl (.inl rfl))) (fun _ _ _ _ _ => (pts_one (pt_cmpR op_ge (pv 2) (pe_op op_pow pe_int pe_int) (nomark _)))) (fun _ _ _ _ _ => (pv 2))) (pa_cons (pv 1) pa_nil))))))), ?_⟩)
  · obtain ⟨a, ns, rfl, _⟩ := h
    rfl
  obtain ⟨a, ns, rfl, hS, hl, q⟩ := h
  have S0 := SD.start (K := K) (N := N__law_hand) (ds := [.list (ns.map .int)]) (vs := [.ref a]) (H := H) BOk.none ⟨_, _, rfl, ⟨a, _, rfl, fun z => z, hS, imAll_ints.mpr rfl⟩, rfl⟩
  refine st_seq (st_set (R := Ex) S0 (ev_int (K := K)) fun s1 H1 r1 S1 => ?_)
  have src : ∀ {δ : List (Option PV)} {Hc : Hp}, δ[0]? = some (some (im K (fun _ => False) (.list (ns.map .int)))) → Src Ex (fun _ => False) (iSeqU K (tSl (rSlU K) (tVar 0) tNoPart (tPart (tC (.int 63))))) δ Hc (ns.map PyData.int).length (fun i => im K (fun _ => False) ((ns.map PyData.int).getD i .none)) := fun {δ Hc} e => by
    have := src_lstU (ev_slL (R := Ex) (H := Hc) (ev_var e) eo_none (eo_some (ev_int (K := K) (i := 63))))
    rw [cut63 hl] at this
    exact this
  refine st_seq (st_for (R := Ex) S1 (src rfl) fun H2 r2 S2 => ⟨fun i s Hc => RB (fun _ => False) H2 Hc ∧ ∃ sd, 0 ≤ sd ∧ sd < big61 ∧ SD (fun _ => False) Hc s [some (im K _ (.list (ns.map .int))), some (im K _ (.int sd)), none],
    ⟨RB.refl H2, 23, by decide, by decide, S2⟩, fun i s Hc z => z.1, fun i x s Ha Hb hi ⟨rb, sd, s0, s1, S⟩ e y => ?_, fun s Hc ⟨rb, sd, s0, s1, S⟩ => ?_⟩)
  · rw [List.length_map] at hi
    rw [getD_int hi] at y
    refine st_set (R := Ex) ((S.mono (RB.of_ex e)).set (i := 2) y) (ev_mod (ev_add (ev_add (ev_mul (ev_var rfl) ev_int (.inr (by decide))) (ev_mod (ev_var rfl) ev_int (by decide))) ev_int) ev_int (by decide)) fun s3 H3 r3 S3 => ?_
    refine ⟨(rb.trans (RB.of_ex e)).trans (RB.of_ex r3), _, ?_, ?_, S3.weak ⟨rfl, rfl, trivial⟩⟩
    · rw [Int.fmod_eq_emod_of_nonneg _ (show (0 : Int) ≤ 2305843009213693951 by decide)]; exact Int.emod_nonneg _ (by decide)
    · rw [Int.fmod_eq_emod_of_nonneg _ (show (0 : Int) ≤ 2305843009213693951 by decide)]; exact Int.emod_lt_of_pos _ (by decide)
  · have comp : Ev Ex (fun _ => False) _ _ Hc (exP (fun ds => ∃ cs : List Int, ds = cs.map .int ∧ (∀ c ∈ cs, 0 ≤ c) ∧ cs.length ≤ 63) fun ds => newL K (fun _ => False) Hc ds) :=
      (ev_lcN (fun i ds => ∃ cs : List Int, ds = cs.map .int ∧ (∀ c ∈ cs, 0 ≤ c) ∧ cs.length ≤ i) (src (δ := [some (im K (fun _ => False) (.list (ns.map .int))), some (im K (fun _ => False) (.int sd)), none]) rfl) (Nat.le_trans (by rw [List.length_map]; exact hl) (by decide)) ⟨[], rfl, by simp, Nat.le_refl _⟩
        (v := 2) (tt := tTest (tOp (rI0 fun i j => .bl (decide (j ≤ i))) (tVar 2) (tOp (rI CPow fun i j => .int (i ^ j.toNat)) (tC (.int 10)) (tC (.int 18))))) (te := tVar 2)
        fun i ds Hd hi ⟨cs, e, hp, hlen⟩ r => ⟨_, etx_of (et_test (ev_ge ((ev_var (i := 2) rfl).is (by rw [List.length_map] at hi; rw [getD_int hi])) (ev_pow ev_int ev_int ⟨by decide, by decide, by decide⟩))), fun _ => ⟨cs, e, hp, by omega⟩, fun hc He re => ⟨_, ev_one (d := .int (ns.getD i 0)) ((ev_var (i := 2) rfl).is (by rw [List.length_map] at hi; rw [getD_int hi])), fun d hd => ?_⟩⟩).conv
        fun v H1 _ ⟨ds, ⟨cs, e, hp, hlen⟩, n⟩ => ⟨ds, ⟨cs, e, hp, by rw [List.length_map] at hlen; omega⟩, n⟩
    · refine st_ret (R := Ex) S (ev_lstV (ea_cons comp (ea_cons (ev_var (i := 1) rfl) ea_nil)) (show 2 ≤ sizeLine by decide) fun vs Ha Hb e ⟨v, r, e1, h1, v2, r2, e2, h2, e3⟩ => ⟨v, r, e1, Stb.st (B := fun _ => False) (RB.of_ex e) h1, v2, r2, e2, h2, e3⟩) fun v H4 r4 ⟨h, vs, ev, nh, nb, eh, v1, y1, e1, ⟨ds, ⟨cs, e, hp, hlen⟩, l, us, e2, nl, nb2, el, hu⟩, v3, y3, e3, h3, e4⟩ => ?_
      have e0 : Ex H Hc := (r1.trans r2).trans rb.toEx
      subst ev e1 e2 e3 e; cases (show y3 = [] from e4); cases (show v3 = _ from h3)
      rw [imAll_ints.mp hu] at el
      refine q h l H4 (e0.trans r4) ⟨fun z => ?_, ⟨sd, eh, s0, s1⟩, ⟨cs, el, hp, hlen⟩⟩ (e0.free nh) (e0.free nl)
      subst z
      rw [eh] at el
      have := Option.some.inj el
      cases cs with
      | nil => cases this
      | cons c cs => cases this
    · subst hd
      rw [List.length_map] at hi
      refine ⟨rfl, cs ++ [ns.getD i 0], by rw [e, List.map_append]; rfl, fun c hc' => ?_, by rw [List.length_append]; show cs.length + 1 ≤ i + 1; omega⟩
      rcases List.mem_append.mp hc' with z | z
      · exact hp c z
      · rw [List.mem_singleton.mp z]
        have := of_decide_eq_true hc.symm
        exact Int.le_trans (by decide) this
end
abbrev s__law_of : Stmt := top 12
abbrev N__law_of : List Str := ["_law_hand_here", "_law_some"]
theorem sc__law_of : FnScope N__law_of ["_law_hand_here", "_law_some"] (defScope s__law_of) := ⟨rfl, rfl, rfl, by decide +kernel, rfl, by decide +kernel, by decide +kernel⟩

section
variable {P : Program} {w : World} {K : PySem.W.Frag} {mg : Str → Option Value} {base : Heap}
theorem ok_of {f f1 : Addr} {fd fd1 : FuncData} (F : FnP K "_law_of" s__law_of f fd) (F__law_pick : FnP K "_law_pick" s__law_pick f1 fd1) (b__law_pick : Binds K fd1 ["_law_hand_here", "_law_many"] [])
    (g__law_pick : mg "_law_pick" = some (.ref f1)) (m_len : mg "len" = none) : FnOk P w K mg base CX0 2 f fd ["_law_hand_here", "_law_some"] (spOf K) := by
  have G__law_pick : FnOk P w K mg base CX0 1 f1 fd1 ["_law_hand_here", "_law_many"] spPick := ok_pick F__law_pick
  refine F.ok sc__law_of (fun vs H Q E h => ?_) (fun cdv A outer s H vs Q E hr h => ⟨_, PSs.nox (pss_one (ps_ret (pe_ix (ix_seqK K) (pv 1) (pe_call G__law_pick (hr.mono (by decide)) (by rfl) g__law_pick F__law_pick.kp b__law_pick .nil pass0 (pa_cons (pv 0) (pa_cons (pe_callB (call_lenK K) (by rfl) m_len PySem.boot_len (pa_cons (pv 1) pa_nil)) pa_nil))) (fun _ _ => rfl)))), ?_⟩)
  · obtain ⟨B, h, l, ds, v, _, _, rfl, _⟩ := h
    rfl
  obtain ⟨B, h, l, ds, v, hs, o, rfl, hk, hv, h1, h2, q⟩ := h
  have S : SD B H (start N__law_of [.ref h, v]) [some (isP (.ref h)), some (im K B (.list ds))] := ⟨o, rfl, fun i p e => by
    match i, e with
    | 0, e => cases e; exact ⟨inferInstance, _, rfl, rfl⟩
    | 1, e => cases e; exact ⟨inferInstance, _, rfl, hv⟩
    | i + 2, e => simp at e⟩
  refine st_ret (R := Rh h l) S (ev_ixN (ev_var rfl) (ev_pickI (K := K) hk (ev_var rfl) (ev_lenL (ev_var rfl)) (by omega) (by omega)) fun i c => ?_) fun u H2 r2 ⟨d, hd, hu⟩ => q d u H2 hd r2 hu
  exact ⟨c.1, c.2⟩
end
abbrev s_letter_at : Stmt := top 1
abbrev N_letter_at : List Str := ["word", "k", "beginning", "again"]
theorem sc_letter_at : FnScope N_letter_at ["word", "k"] (defScope s_letter_at) := ⟨rfl, rfl, rfl, by decide +kernel, rfl, by decide +kernel, by decide +kernel⟩

section
variable {P : Program} {w : World} {K : PySem.W.Frag} {mg : Str → Option Value} {base : Heap}
theorem ok_letter_at {f : Addr} {fd : FuncData} {k : Nat} (F : FnP K "letter_at" s_letter_at f fd) (m_len : mg "len" = none) : FnOk P w K mg base CX0 (k + 1) f fd ["word", "k"] (spLetterAt K) := by
  refine F.ok sc_letter_at (fun vs H Q E h => pureSp.len (n := 2) (fun _ => rfl) h) (fun cdv A outer s H vs Q E hr h => ⟨_, PSs.nox (pss_cons (ps_asg (pv 0) (pg_tup rfl (pgs_cons (pg_name (i := 2) sc_letter_at.nd rfl (.inl rfl)) (pgs_cons (pg_name (i := 3) sc_letter_at.nd rfl (.inl rfl)) pgs_nil))))
 (pss_cons (ps_if (pt_cmpR op_lt (pv 1) (pe_callB (call_lenK K) (by rfl) m_len PySem.boot_len (pa_cons (pv 2) pa_nil)) (nomark _))
 (pss_one (ps_ret (pe_ix (ix_seqK K) (pv 2) (pv 1) (fun _ _ => rfl))))
 pss_nil)
 (pss_one (ps_ret (pe_ix (ix_seqK K) (pv 3) (pe_op op_modN (pe_op op_sub (pv 1) (pe_callB (call_lenK K) (by rfl) m_len PySem.boot_len (pa_cons (pv 2) pa_nil))) (pe_callB (call_lenK K) (by rfl) m_len PySem.boot_len (pa_cons (pv 3) pa_nil))) (fun _ _ => rfl)))))), ?_⟩)
  obtain ⟨B, ⟨b, r, k⟩, o, hv, ⟨hk, hr⟩, q⟩ := h
  dsimp only at hv hk hr q
  have S := SD.start (N := N_letter_at) o hv
  refine st_seq (st_unpack2 (R := Ex) S (ev_var rfl) fun σ1 H1 r1 S1 => ?_)
  refine st_seq (st_if (R := Ex) S1 (et_test (ev_lt (ev_var rfl) (ev_lenT (ev_var rfl)))) (fun hc H2 r2 S2 => ?_) (fun hc H2 r2 S2 => ?_))
  · have hc := of_decide_eq_true hc
    refine st_ret (R := Ex) S2 (ev_ixT (ev_var rfl) (ev_var rfl) (atI_ints hk ?_)) fun v H3 r3 hv => q v H3 ((r1.trans r2).trans r3) ?_
    · simpa using hc
    · unfold letterAt
      rw [if_pos (by simpa using hc)]
      exact hv
  · have hc := of_decide_eq_false hc
    have hl : (0 : Int) < r.length := by
      have := List.length_pos_iff.mpr hr
      omega
    simp only [List.length_map] at hc
    refine st_ret (R := Ex) S2 (ev_ixT (ev_var rfl) (ev_mod (ev_sub (ev_var rfl) (ev_lenT (ev_var rfl))) (ev_lenT (ev_var rfl)) (by simp only [List.length_map]; omega)) (atI_ints ?_ ?_)) fun v H3 r3 hv => q v H3 ((r1.trans r2).trans r3) ?_
    · simp only [List.length_map]
      rw [Int.fmod_eq_emod_of_nonneg _ (by omega)]
      exact Int.emod_nonneg _ (by omega)
    · simp only [List.length_map]
      rw [Int.fmod_eq_emod_of_nonneg _ (by omega)]
      exact Int.emod_lt_of_pos _ hl
    · unfold letterAt
      rw [if_neg hc]
      simp only [List.length_map] at hv
      rw [Int.fmod_eq_emod_of_nonneg _ (by omega)] at hv
      exact hv
end
abbrev s_shortest_round : Stmt := top 2
abbrev N_shortest_round : List Str := ["again", "size"]
theorem sc_shortest_round : FnScope N_shortest_round ["again"] (defScope s_shortest_round) := ⟨rfl, rfl, rfl, by decide +kernel, rfl, by decide +kernel, by decide +kernel⟩

abbrev s_told_form : Stmt := top 3
abbrev N_told_form : List Str := ["word", "beginning", "again", "first", "last"]
theorem sc_told_form : FnScope N_told_form ["word"] (defScope s_told_form) := ⟨rfl, rfl, rfl, by decide +kernel, rfl, by decide +kernel, by decide +kernel⟩

abbrev spShort (K : PySem.W.Frag) : Sp := relSp (α := List Int) (β := List Int) K (fun r => [tI r]) (fun r => r ≠ [] ∧ r.length ≤ 1000) (fun r r0 => Short r r0) (fun r0 => tI r0)
abbrev spTold (K : PySem.W.Frag) : Sp := pureSp (α := List Int × List Int) K (fun a => [wd a.1 a.2]) (fun a => a.2 ≠ [] ∧ a.2.length ≤ 1000 ∧ a.1.length ≤ 10000) (fun a => wd (told (sq a.1 a.2)).1 (told (sq a.1 a.2)).2)
section
variable {P : Program} {w : World} {K : PySem.W.Frag} {mg : Str → Option Value} {base : Heap}
theorem ok_shortest {f : Addr} {fd : FuncData} {k : Nat} (F : FnP K "shortest_round" s_shortest_round f fd) (m_len : mg "len" = none) (m_range : mg "range" = none) : FnOk P w K mg base CX0 (k + 1) f fd ["again"] (spShort K) := by
  refine F.ok sc_shortest_round (fun vs H Q E h => relSp.len (n := 1) (fun _ => rfl) h) (fun cdv A outer s H vs Q E hr h => ⟨_, PSs.nox (pss_cons (ps_for PassesOwn.never rfl (pi_range2 (by rfl) m_range (pa_cons pe_int (pa_cons (pe_callB (call_lenK K) (by rfl) m_len PySem.boot_len (pa_cons (pv 0) pa_nil)) pa_nil))) (pg_name (i := 1) sc_shortest_round.nd rfl (.inl rfl))
 (pss_one (ps_if (PW.pt (pw_and (pt_cmpR (op_eqK K hr.units) (pe_op op_modN (pe_callB (call_lenK K) (by rfl) m_len PySem.boot_len (pa_cons (pv 0) pa_nil)) (pv 1)) pe_int (nomark _)) (pw_and1 (pt_cmpR (op_eqK K hr.units) (pe_op (op_mulK K) (pe_slice (sl_seqK K) (pv 0) po_none (po_some (pv 1))) (pe_op op_fdivN (pe_callB (call_lenK K) (by rfl) m_len PySem.boot_len (pa_cons (pv 0) pa_nil)) (pv 1))) (pv 0) (nomark _)))))
 (pss_one (ps_ret (pe_slice (sl_seqK K) (pv 0) po_none (po_some (pv 1)))))
 pss_nil)))
 (pss_one (ps_ret (pv 0)))), ?_⟩)
  obtain ⟨B, r, o, hv, ⟨hr, hl⟩, q⟩ := h
  dsimp only at hv hr hl q
  have S := SD.start (N := N_shortest_round) o hv
  refine (sq_for (R := Ex) S (src_range2 (K := K) (ev_int (K := K) (i := 1)) (ev_lenI (ev_var rfl)) ⟨by decide, by decide, by omega, by omega⟩) fun H0 r0 S0 => ⟨fun i s Hc => Ex H0 Hc ∧ (∀ q, 1 ≤ q → q < 1 + i → r.length % q = 0 → ¬ Per (sq [] r) 0 q) ∧ SD B Hc s [some (im K B (tI r)), none],
    ⟨Ex.refl H0, fun q h1 h2 => by omega, S0⟩, fun i s Hc z => RB.of_ex z.1, fun i x s Ha Hb hi ⟨ea, hm, Sa⟩ e y => ?_, fun s Hc ⟨ec, hm, Sc⟩ => ?_⟩)
  · have hi : 1 + i < r.length := by omega
    have y : im K B (.int ((1 + i : Nat) : Int)) x Hb := by
      have := y
      rw [show ((1 + i : Nat) : Int) = 1 + (i : Int) by omega]
      exact this
    have Sb := ((Sa.mono (RB.of_ex e)).set (i := 1) y)
    have sl : ∀ {Hc : Hp}, Ev Ex B (tSl (rSlU K) (tVar 0) tNoPart (tPart (tVar 1))) _ Hc (im K B (tI (r.take (1 + i)))) := fun {Hc} => ev_slI (δ := [some (im K B (tI r)), some (im K B (.int ((1 + i : Nat) : Int)))]) (ev_var (i := 0) rfl) eo_none (eo_some (K := K) (ev_var (i := 1) rfl)) cut_upto
    refine st_if (R := Ex) Sb (b := decide (r.length % (1 + i) = 0) && (decide ((List.replicate (r.length / (1 + i)) (r.take (1 + i))).flatten = r))) (et_and ((et_test (ev_eqI (ev_mod (ev_lenI (ev_var (i := 0) rfl)) (ev_var (i := 1) rfl) (by omega)) ev_int)).is ?_) fun _ => (et_test (ev_eq (ev_repI sl (ev_fdiv (ev_lenI (ev_var (i := 0) rfl)) (ev_var (i := 1) rfl) ⟨by omega, by omega⟩) ?_ ?_ (by rw [List.length_take]; omega) rfl) (ev_var (i := 0) rfl) (shaped_tI _) (shaped_tI _))).is ?_) (fun hc H2 r2 S2 => ?_) fun hc H2 r2 S2 => ?_
    · rw [Int.fmod_eq_emod_of_nonneg _ (by omega), ← Int.natCast_emod]
      by_cases z : r.length % (1 + i) = 0
      · rw [decide_eq_true z, decide_eq_true (by omega)]
      · rw [decide_eq_false z, decide_eq_false (by omega)]
    · rw [Int.fdiv_eq_ediv_of_nonneg _ (by omega)]; exact Int.ediv_nonneg (by omega) (by omega)
    · rw [Int.fdiv_eq_ediv_of_nonneg _ (by omega)]; exact Int.le_trans (Int.ediv_le_self _ (by omega)) (by omega)
    · rw [eqv_tI, Int.fdiv_eq_ediv_of_nonneg _ (by omega), ← Int.natCast_ediv, Int.toNat_natCast]
    · rw [Bool.and_eq_true_iff] at hc
      have h1 := of_decide_eq_true hc.1
      have h2 := of_decide_eq_true hc.2
      exact st_ret (R := Ex) S2 sl fun v H3 r3 hv => q (r.take (1 + i)) v H3 (short_of hr (by omega) (by omega) ((rep_iff (by omega) (by omega) h1).mp h2) fun q h1 h2 => hm q h1 (by omega)) (((r0.trans ea).trans e).trans (r2.trans r3)) hv
    · refine ⟨(ea.trans e).trans r2, fun q h1 h2 hd => ?_, S2.weak ⟨rfl, trivial⟩⟩
      rcases Nat.lt_or_ge q (1 + i) with z | z
      · exact hm q h1 z hd
      · have eq : q = 1 + i := by omega
        subst eq
        intro hp
        have := (rep_iff (by omega) (by omega) hd).mpr hp
        rw [decide_eq_true hd, decide_eq_true this] at hc
        cases hc
  · exact st_ret (R := Ex) Sc (ev_var rfl) fun v H3 r3 hv => q r v H3 (short_self hr fun q h1 h2 hd => hm q h1 (by omega) hd) ((r0.trans ec).trans r3) hv
theorem ok_told {f f1 : Addr} {fd fd1 : FuncData} (F : FnP K "told_form" s_told_form f fd) (F_shortest_round : FnP K "shortest_round" s_shortest_round f1 fd1) (b_shortest_round : Binds K fd1 ["again"] []) (g_shortest_round : mg "shortest_round" = some (.ref f1))
    (m_len : mg "len" = none) (m_range : mg "range" = none) (m_tuple : mg "tuple" = none) : FnOk P w K mg base CX0 2 f fd ["word"] (spTold K) := by
  have G_shortest_round : FnOk P w K mg base CX0 1 f1 fd1 ["again"] (spShort K) := ok_shortest F_shortest_round m_len m_range
  refine F.ok sc_told_form (fun vs H Q E h => pureSp.len (n := 1) (fun _ => rfl) h) (fun cdv A outer s H vs Q E hr h => ⟨_, PSs.nox (pss_cons (ps_par (i := 1) (j := 2) (by rfl) sc_told_form.nd rfl rfl (by decide) rfl rfl (pa_cons (pe_ix (ix_seqK K) (pv 0) pe_int (fun _ _ => rfl)) (pa_cons (pe_call G_shortest_round (hr.mono (by decide)) (by rfl) g_shortest_round F_shortest_round.kp b_shortest_round .nil pass0 (pa_cons (pe_ix (ix_seqK K) (pv 0) pe_int (fun _ _ => rfl)) pa_nil)) pa_nil)) (by rfl))
 (pss_cons (ps_while PassesOwn.never (PW.pt (pw_and (pt_cmpR (op_neK K hr.units) (pv 1) (pe_tup pa_nil) (nomark _)) (pw_and1 (pt_cmpR (op_eqK K hr.units) (pe_ix (ix_seqK K) (pv 1) (pe_un un_neg pe_int) (fun _ _ => rfl)) (pe_ix (ix_seqK K) (pv 2) (pe_un un_neg pe_int) (fun _ _ => rfl)) (nomark _)))))
 (pss_cons (ps_asg (pv 2) (pg_starlast (i := 3) (j := 4) rfl sc_told_form.nd rfl rfl rfl rfl))
 (pss_one (ps_par (i := 1) (j := 2) (by rfl) sc_told_form.nd rfl rfl (by decide) rfl rfl (pa_cons (pe_slice (sl_seqK K) (pv 1) po_none (po_some (pe_un un_neg pe_int))) (pa_cons (pe_op (op_addK K) (pe_tup (pa_cons (pv 4) pa_nil)) (pe_callTy (call_tupleK K) (by rfl) m_tuple (by decide +kernel) (pa_cons (pv 3) pa_nil))) pa_nil)) (by rfl)))))
 (pss_one (ps_ret (pe_tup (pa_cons (pv 1) (pa_cons (pv 2) pa_nil))))))), ?_⟩)
  obtain ⟨B, ⟨b, r⟩, o, hv, ⟨hr, hl, hb⟩, q⟩ := h
  dsimp only at hv hr hl hb q
  have S := SD.start (N := N_told_form) o hv
  refine (sq_par (R := Ex) S (ea_cons (ev_ixT (ev_var rfl) ev_int rfl) (ea_cons (ev_callR r (ea_cons (ev_ixT (ev_var rfl) ev_int rfl) ea_nil) ⟨hr, hl⟩) ea_nil)) fun s1 H1 r1 S1 => ?_)
  obtain ⟨r0, hsh, S1⟩ := S1.opn 2 rfl
  refine (sq_while (R := Ex) (B := B) (fun m s Hc => Ex H1 Hc ∧ ∃ b' r', SD B Hc s [none, some (im K B (tI b')), some (im K B (tI r')), none, none] ∧ sq b' r' = sq b r ∧ r' ≠ [] ∧ r'.length = r0.length ∧ b'.length = m ∧ m ≤ 10000) b.length
    ⟨Ex.refl H1, b, r0, S1.weak ⟨rfl, rfl, trivial⟩, sq_short hsh, hsh.ne, rfl, rfl, hb⟩ fun m s Hc ⟨ec, b', r', Sc, hf, hr', hp, hm, hm2⟩ => ?_)
  have hrl : r'.length ≤ 1000 := by have := hsh.le; omega
  have fin : ∀ {H2 : Hp}, Ex Hc H2 → SD B H2 s [none, some (im K B (tI b')), some (im K B (tI r')), none, none] → (∀ c x, b' = c ++ [x] → ∀ d, r' ≠ d ++ [x]) →
      tRet (tTup (tCons (tVar 1) (tCons (tVar 2) tNil))) { nx := fun _ H' => Q V.non H', rt := Q } s H2 := fun {H2} e2 S2 he => by
    refine st_ret (R := Ex) S2 (ev_tup (ds := [tI b', tI r']) (ea_cons (ev_var (i := 1) rfl) (ea_cons (ev_var (i := 2) rfl) ea_nil)) (show 2 ≤ sizeLine by decide)) fun v H3 r3 hv => q v H3 (((r1.trans ec).trans e2).trans r3) ?_
    rw [told_end hr' hf (fun q n h1 h2 => by rw [hp]; exact short_min hsh q n h1 h2) he]
    exact hv
  have t1 : EvT Ex B (tTest (tOp (rNeU K) (tVar 1) (tTup tNil))) [none, some (im K B (tI b')), some (im K B (tI r')), none, none] Hc (!decide (b' = [])) :=
    (et_test (ev_ne (ev_var (i := 1) rfl) (ev_tup (ds := []) ea_nil (Nat.zero_le _)) (shaped_tI b') (shaped_tI []))).is (by rw [show PyData.eqv (tI b') (.tuple []) = _ from eqv_tI b' []])
  rcases List.eq_nil_or_concat b' with e | ⟨c, x, e⟩
  · refine ⟨_, false, Sc, (et_and t1 (b := false) fun z => by subst e; cases z).is (by subst e; rfl), fun z => (by cases z), fun _ H2 r2 S2 => fin r2 S2 fun c x e' => ?_⟩
    subst e
    exact absurd e'.symm (List.append_ne_nil_of_right_ne_nil _ (List.cons_ne_nil _ _))
  · obtain ⟨d, y, e2⟩ : ∃ d y, r' = d ++ [y] := by
      rcases List.eq_nil_or_concat r' with z | ⟨d, y, z⟩
      · exact absurd z hr'
      · exact ⟨d, y, by rw [z, List.concat_eq_append]⟩
    rw [List.concat_eq_append] at e
    subst e e2
    have hne : c ++ [x] ≠ [] := List.append_ne_nil_of_right_ne_nil _ (List.cons_ne_nil _ _)
    refine ⟨_, decide (x = y), Sc, (et_and t1 fun _ => et_test (ev_eqI (ev_ixT (ev_var (i := 1) rfl) (ev_neg ev_int) atI_lastI) (ev_ixT (ev_var (i := 2) rfl) (ev_neg ev_int) atI_lastI))).is (by rw [decide_eq_false hne]; rfl), fun hc H2 r2 S2 => ?_, fun hc H2 r2 S2 => fin r2 S2 fun c' x' e d' e' => ?_⟩
    · have hc := of_decide_eq_true hc
      subst hc
      have dl : d.length + 1 = (d ++ [x]).length := by rw [List.length_append]; rfl
      refine (sq_star (R := Ex) (K := K) (ds := d.map .int) (d := .int x) S2 ((ev_var (i := 2) rfl).is (by show im K B (.tuple ((d ++ [x]).map PyData.int)) = _; rw [List.map_append]; rfl)) (by rw [List.length_map]; omega) fun s3 H3 r3 S3 => ?_)
      refine st_par (R := Ex) S3 (ea_cons (ev_slI (ms := c) (ev_var (i := 1) rfl) eo_none (eo_some (K := K) (ev_neg ev_int)) cut_init) (ea_cons (ev_catI (ns := [x]) (ms := d) (ev_tup (ds := [.int x]) (ea_cons (ev_var (i := 4) rfl) ea_nil) (show 1 ≤ sizeLine by decide)) (ev_tupleL (ev_var (i := 3) rfl)) (by simp; omega)) ea_nil)) fun s4 H4 r4 S4 => ?_
      rw [List.length_append] at hm
      exact ⟨c.length, by rw [← hm]; exact Nat.lt_succ_self _, ((ec.trans r2).trans r3).trans r4, c, x :: d, S4.weak ⟨rfl, rfl, trivial⟩, (rot_step c d x).trans hf, List.cons_ne_nil _ _, by rw [List.length_cons, dl]; exact hp, rfl, by rw [← hm] at hm2; omega⟩
    · have hc := of_decide_eq_false hc
      have e1 := List.append_inj_right' e rfl
      have e2 := List.append_inj_right' e' rfl
      cases e1
      cases e2
      exact hc rfl
end
abbrev s_from_on : Stmt := top 5
abbrev N_from_on : List Str := ["word", "k", "beginning", "again", "at"]
theorem sc_from_on : FnScope N_from_on ["word", "k"] (defScope s_from_on) := ⟨rfl, rfl, rfl, by decide +kernel, rfl, by decide +kernel, by decide +kernel⟩

abbrev s_led_by : Stmt := top 6
abbrev N_led_by : List Str := ["some", "word"]
theorem sc_led_by : FnScope N_led_by ["some", "word"] (defScope s_led_by) := ⟨rfl, rfl, rfl, by decide +kernel, rfl, by decide +kernel, by decide +kernel⟩

abbrev spFrom (K : PySem.W.Frag) : Sp := pureSp (α := List Int × List Int × Nat) K (fun a => [wd a.1 a.2.1, .int (a.2.2 : Nat)]) (fun a => a.2.1 ≠ [] ∧ a.2.1.length ≤ 1000 ∧ a.1.length ≤ 1000) (fun a => wd (told (shift (sq a.1 a.2.1) a.2.2)).1 (told (shift (sq a.1 a.2.1) a.2.2)).2)
abbrev spLed (K : PySem.W.Frag) : Sp := pureSp (α := List Int × List Int × List Int) K (fun a => [tI a.1, wd a.2.1 a.2.2]) (fun a => a.2.2 ≠ [] ∧ a.2.2.length ≤ 1000 ∧ a.1.length + a.2.1.length ≤ 1000) (fun a => wd (told (sq (a.1 ++ a.2.1) a.2.2)).1 (told (sq (a.1 ++ a.2.1) a.2.2)).2)
section
variable {P : Program} {w : World} {K : PySem.W.Frag} {mg : Str → Option Value} {base : Heap}
theorem ok_from {f : Addr} {fd : FuncData} (F : FnP K "from_on" s_from_on f fd) {f_told_form : Addr} {fd_told_form : FuncData} (F_told_form : FnP K "told_form" s_told_form f_told_form fd_told_form) (b_told_form : Binds K fd_told_form ["word"] []) (g_told_form : mg "told_form" = some (.ref f_told_form)) (m_len : mg "len" = none) (G_told_form : FnOk P w K mg base CX0 2 f_told_form fd_told_form ["word"] (spTold K)) : FnOk P w K mg base CX0 3 f fd ["word", "k"] (spFrom K) := by
  refine F.ok sc_from_on (fun vs H Q E h => pureSp.len (n := 2) (fun _ => rfl) h) (fun cdv A outer s H vs Q E hr h => ⟨_, PSs.nox (pss_cons (ps_asg (pv 0) (pg_tup rfl (pgs_cons (pg_name (i := 2) sc_from_on.nd rfl (.inl rfl)) (pgs_cons (pg_name (i := 3) sc_from_on.nd rfl (.inl rfl)) pgs_nil))))
 (pss_cons (ps_if (pt_cmpR op_le (pv 1) (pe_callB (call_lenK K) (by rfl) m_len PySem.boot_len (pa_cons (pv 2) pa_nil)) (nomark _))
 (pss_one (ps_ret (pe_call G_told_form (hr.mono (by decide)) (by rfl) g_told_form F_told_form.kp b_told_form .nil pass0 (pa_cons (pe_tup (pa_cons (pe_slice (sl_seqK K) (pv 2) (po_some (pv 1)) po_none) (pa_cons (pv 3) pa_nil))) pa_nil))))
 pss_nil)
 (pss_cons (ps_set (i := 4) sc_from_on.nd rfl (.inl rfl) (pe_op op_modN (pe_op op_sub (pv 1) (pe_callB (call_lenK K) (by rfl) m_len PySem.boot_len (pa_cons (pv 2) pa_nil))) (pe_callB (call_lenK K) (by rfl) m_len PySem.boot_len (pa_cons (pv 3) pa_nil))))
 (pss_one (ps_ret (pe_call G_told_form (hr.mono (by decide)) (by rfl) g_told_form F_told_form.kp b_told_form .nil pass0 (pa_cons (pe_tup (pa_cons (pe_tup pa_nil) (pa_cons (pe_op (op_addK K) (pe_slice (sl_seqK K) (pv 3) (po_some (pv 4)) po_none) (pe_slice (sl_seqK K) (pv 3) po_none (po_some (pv 4)))) pa_nil))) pa_nil))))))), ?_⟩)
  obtain ⟨B, ⟨b, r, k⟩, o, hv, ⟨hr, hl, hb⟩, q⟩ := h
  dsimp only at hv hr hl hb q
  have rp : 1 ≤ r.length := List.length_pos_iff.mpr hr
  have S := SD.start (N := N_from_on) o hv
  refine sq_unpack2 (R := Ex) S (ev_var rfl) fun s1 H1 r1 S1 => ?_
  refine sq_if (R := Ex) S1 (et_test (ev_le (ev_var (i := 1) rfl) (ev_lenI (ev_var (i := 2) rfl)))) (fun hc H2 r2 S2 => ?_) fun hc H2 r2 S2 => ?_
  · have hc := of_decide_eq_true hc
    refine st_ret (R := Ex) S2 (ev_call (b.drop k, r) (ea_cons (ev_tup (ds := [tI (b.drop k), tI r]) (ea_cons (ev_slI (ev_var (i := 2) rfl) (eo_some (K := K) (ev_var (i := 1) rfl)) eo_none cut_from) (ea_cons (ev_var (i := 3) rfl) ea_nil)) (show 2 ≤ sizeLine by decide)) ea_nil) ⟨hr, hl, by show (b.drop k).length ≤ 10000; rw [List.length_drop]; omega⟩) fun v H3 r3 hv => q v H3 ((r1.trans r2).trans r3) ?_
    dsimp only at hv
    rw [sq_drop (by omega)] at hv
    exact hv
  · have hc := of_decide_eq_false hc
    have hm := Nat.mod_lt (k - b.length) rp
    refine sq_set (R := Ex) (p := im K B (.int (((k - b.length) % r.length : Nat) : Int))) S2 ((ev_mod (ev_sub (ev_var (i := 1) rfl) (ev_lenI (ev_var (i := 2) rfl))) (ev_lenI (ev_var (i := 3) rfl)) (by omega)).is (by rw [Int.fmod_eq_emod_of_nonneg _ (by omega), Int.natCast_emod, Int.natCast_sub (by omega)])) fun s3 H3 r3 S3 => ?_
    refine st_ret (R := Ex) S3 (ev_call ([], r.drop ((k - b.length) % r.length) ++ r.take ((k - b.length) % r.length)) (ea_cons (ev_tup (ds := [tI [], tI (r.drop ((k - b.length) % r.length) ++ r.take ((k - b.length) % r.length))]) (ea_cons (ev_tup (ds := []) ea_nil (Nat.zero_le _)) (ea_cons (ev_catI (ev_slI (ev_var (i := 3) rfl) (eo_some (K := K) (ev_var (i := 4) rfl)) eo_none cut_from) (ev_slI (ev_var (i := 3) rfl) eo_none (eo_some (K := K) (ev_var (i := 4) rfl)) cut_upto) (by rw [List.length_drop, List.length_take]; omega)) ea_nil)) (show 2 ≤ sizeLine by decide)) ea_nil) ⟨fun e => ?_, ?_, by show ([] : List Int).length ≤ 10000; decide⟩) fun v H4 r4 hv => q v H4 ((r1.trans r2).trans (r3.trans r4)) ?_
    · have := rot_len' hm
      dsimp only at e
      rw [e] at this
      simp only [List.length_nil] at this
      omega
    · show (r.drop _ ++ r.take _).length ≤ 1000
      rw [rot_len' hm]; exact hl
    · dsimp only at hv
      rw [sq_rot hr (by omega)] at hv
      exact hv
theorem ok_led {f : Addr} {fd : FuncData} (F : FnP K "led_by" s_led_by f fd) {f_told_form : Addr} {fd_told_form : FuncData} (F_told_form : FnP K "told_form" s_told_form f_told_form fd_told_form) (b_told_form : Binds K fd_told_form ["word"] []) (g_told_form : mg "told_form" = some (.ref f_told_form)) (G_told_form : FnOk P w K mg base CX0 2 f_told_form fd_told_form ["word"] (spTold K)) : FnOk P w K mg base CX0 3 f fd ["some", "word"] (spLed K) := by
  refine F.ok sc_led_by (fun vs H Q E h => pureSp.len (n := 2) (fun _ => rfl) h) (fun cdv A outer s H vs Q E hr h => ⟨_, PSs.nox (pss_one (ps_ret (pe_call G_told_form (hr.mono (by decide)) (by rfl) g_told_form F_told_form.kp b_told_form .nil pass0 (pa_cons (pe_tup (pa_cons (pe_op (op_addK K) (pv 0) (pe_ix (ix_seqK K) (pv 1) pe_int (fun _ _ => rfl))) (pa_cons (pe_ix (ix_seqK K) (pv 1) pe_int (fun _ _ => rfl)) pa_nil))) pa_nil)))), ?_⟩)
  obtain ⟨B, ⟨c, b, r⟩, o, hv, ⟨hr, hl, hb⟩, q⟩ := h
  dsimp only at hv hr hl hb q
  have S := SD.start (N := N_led_by) o hv
  exact st_ret (R := Ex) S (ev_call (c ++ b, r) (ea_cons (ev_tup (ds := [tI (c ++ b), tI r]) (ea_cons (ev_catI (ev_var (i := 0) rfl) (ev_ixT (ev_var (i := 1) rfl) ev_int rfl) (by omega)) (ea_cons (ev_ixT (ev_var (i := 1) rfl) ev_int rfl) ea_nil)) (show 2 ≤ sizeLine by decide)) ea_nil) ⟨hr, hl, by show (c ++ b).length ≤ 10000; rw [List.length_append]; omega⟩) fun v H3 r3 hv => q v H3 r3 hv
end
abbrev s_order_of : Stmt := top 4
abbrev N_order_of : List Str := ["word", "beginning", "again"]
theorem sc_order_of : FnScope N_order_of ["word"] (defScope s_order_of) := ⟨rfl, rfl, rfl, by decide +kernel, rfl, by decide +kernel, by decide +kernel⟩

abbrev spOrder (K : PySem.W.Frag) : Sp := pureSp (α := List Int × List Int) K (fun a => [wd a.1 a.2]) (fun a => a.2 ≠ [] ∧ a.2.length ≤ 1000 ∧ a.1.length ≤ 10000) (fun a => ord (told (sq a.1 a.2)).1 (told (sq a.1 a.2)).2)
section
variable {P : Program} {w : World} {K : PySem.W.Frag} {mg : Str → Option Value} {base : Heap}
theorem ok_order {f : Addr} {fd : FuncData} (F : FnP K "order_of" s_order_of f fd) {f_told_form : Addr} {fd_told_form : FuncData} (F_told_form : FnP K "told_form" s_told_form f_told_form fd_told_form) (b_told_form : Binds K fd_told_form ["word"] []) (g_told_form : mg "told_form" = some (.ref f_told_form)) (m_len : mg "len" = none) (G_told_form : FnOk P w K mg base CX0 2 f_told_form fd_told_form ["word"] (spTold K)) : FnOk P w K mg base CX0 3 f fd ["word"] (spOrder K) := by
  refine F.ok sc_order_of (fun vs H Q E h => pureSp.len (n := 1) (fun _ => rfl) h) (fun cdv A outer s H vs Q E hr h => ⟨_, PSs.nox (pss_cons (ps_asg (pe_call G_told_form (hr.mono (by decide)) (by rfl) g_told_form F_told_form.kp b_told_form .nil pass0 (pa_cons (pv 0) pa_nil)) (pg_tup rfl (pgs_cons (pg_name (i := 1) sc_order_of.nd rfl (.inl rfl)) (pgs_cons (pg_name (i := 2) sc_order_of.nd rfl (.inl rfl)) pgs_nil))))
 (pss_one (ps_ret (pe_tup (pa_cons (pe_op (op_addK K) (pe_callB (call_lenK K) (by rfl) m_len PySem.boot_len (pa_cons (pv 1) pa_nil)) (pe_callB (call_lenK K) (by rfl) m_len PySem.boot_len (pa_cons (pv 2) pa_nil))) (pa_cons (pe_callB (call_lenK K) (by rfl) m_len PySem.boot_len (pa_cons (pv 1) pa_nil)) (pa_cons (pv 1) (pa_cons (pv 2) pa_nil)))))))), ?_⟩)
  obtain ⟨B, ⟨b, r⟩, o, hv, ⟨hr, hl, hb⟩, q⟩ := h
  dsimp only at hv hr hl hb q
  have S := SD.start (N := N_order_of) o hv
  refine sq_unpack2 (R := Ex) S (ev_call (b, r) (ea_cons (ev_var rfl) ea_nil) ⟨hr, hl, hb⟩) fun s1 H1 r1 S1 => ?_
  refine st_ret (R := Ex) S1 (ev_tup (ds := [.int (((told (sq b r)).1.length + (told (sq b r)).2.length : Nat) : Int), .int ((told (sq b r)).1.length : Nat), tI (told (sq b r)).1, tI (told (sq b r)).2])
    (ea_cons ((ev_add (ev_lenI (ev_var (i := 1) rfl)) (ev_lenI (ev_var (i := 2) rfl))).is (by rw [Int.natCast_add])) (ea_cons (ev_lenI (ev_var (i := 1) rfl)) (ea_cons (ev_var (i := 1) rfl) (ea_cons (ev_var (i := 2) rfl) ea_nil)))) (show 4 ≤ sizeLine by decide)) fun v H2 r2 hv => q v H2 (r1.trans r2) hv
end
abbrev s_letter_rows : Stmt := top 7
abbrev N_letter_rows : List Str := ["letters", "size", "found", "turn", "row", "letter"]
theorem sc_letter_rows : FnScope N_letter_rows ["letters", "size"] (defScope s_letter_rows) := ⟨rfl, rfl, rfl, by decide +kernel, rfl, by decide +kernel, by decide +kernel⟩

abbrev s_words_upto : Stmt := top 8
abbrev N_words_upto : List Str := ["letters", "size", "found", "many", "k", "some", "one", "other", "word"]
theorem sc_words_upto : FnScope N_words_upto ["letters", "size"] (defScope s_words_upto) := ⟨rfl, rfl, rfl, by decide +kernel, rfl, by decide +kernel, by decide +kernel⟩

abbrev spLR (K : PySem.W.Frag) : Sp := newSp (α := Nat × Nat) K (fun a => [.int (a.1 : Nat), .int (a.2 : Nat)]) (fun a => 1 ≤ a.1 ∧ a.1 ^ a.2 ≤ 100000 ∧ a.2 ≤ 100) (fun a => (rowsI a.1 a.2).map tI)
abbrev spUpto (K : PySem.W.Frag) : Sp := pureSp (α := Nat × Nat) K (fun a => [.int (a.1 : Nat), .int (a.2 : Nat)]) (fun a => 1 ≤ a.1 ∧ a.2 ≤ 20 ∧ cnt a.1 a.2 ≤ 100000) (fun a => .tuple ((due a.1 a.2).map wdp))
section
variable {P : Program} {w : World} {K : PySem.W.Frag} {mg : Str → Option Value} {base : Heap}
theorem ok_lrows {f : Addr} {fd : FuncData} (F : FnP K "letter_rows" s_letter_rows f fd) (m_range : mg "range" = none) : FnOk P w K mg base CX0 1 f fd ["letters", "size"] (spLR K) := by
  refine F.ok sc_letter_rows (fun vs H Q E h => newSp.len (n := 2) (fun _ => rfl) h) (fun cdv A outer s H vs Q E hr h => ⟨_, PSs.nox (pss_cons (ps_set (i := 2) sc_letter_rows.nd rfl (.inl rfl) (pe_lst (pa_cons (pe_tup pa_nil) pa_nil)))
 (pss_cons (ps_for PassesOwn.never rfl (pi_range1 (by rfl) m_range (pa_cons (pv 1) pa_nil)) (pg_name (i := 3) sc_letter_rows.nd rfl (.inl rfl))
 (pss_one (ps_setLc2 (i := 2) (own := [("row", 4), ("letter", 5)]) (vs1 := [5]) (by rfl) sc_letter_rows.nd rfl rfl (sw_true rfl rfl rfl (by decide +kernel)) (pi_seqK K (pv 2)) (blkOk_by (own := [("row", 4), ("letter", 5)]) (N := N_letter_rows) (sc := defScope s_letter_rows) (by decide +kernel)) (by decide) (fun _ _ _ _ _ => (pg_name (i := 4) sc_letter_rows.nd rfl (.inl rfl))) (fun _ _ _ _ _ => pts_nil) (fun _ _ _ _ _ => (pi_range1 (by rfl) m_range (pa_cons (pv 0) pa_nil))) (fun _ _ _ _ _ => (pg_name (i := 5) sc_letter_rows.nd rfl (.inl rfl))) (fun _ _ _ _ _ => pts_nil) (fun _ _ _ _ _ => (pe_op (op_addK K) (pv 4) (pe_tup (pa_cons (pv 5) pa_nil)))))))
 (pss_one (ps_ret (pv 2))))), ?_⟩)
  obtain ⟨⟨L, n⟩, hv, ⟨h1, h2, h3⟩, q⟩ := h
  dsimp only at hv h1 h2 h3 q
  have S := SD.start (N := N_letter_rows) BOk.none hv
  refine sq_set (R := Ex) (p := newL K (fun _ => False) H [tI []]) S (ev_lstN (ds := [tI []]) (ea_cons (ev_tup (ds := []) ea_nil (Nat.zero_le _)) ea_nil) (show 1 ≤ sizeLine by decide)) fun s1 H1 r1 S1 => ?_
  refine sq_forN (R := Ex) (v := 3) S1 (src_range1 (K := K) (n := (n : Nat)) (ev_var (i := 1) rfl) (by omega) (by omega)) (fun i => [some (im K (fun _ => False) (.int (L : Nat))), none, some (newL K (fun _ => False) H ((rowsI L i).map tI)), none, none, none]) (fun i H0 Hc => Ex H0 Hc) (fun H0 r0 S0 => ⟨S0.weak ⟨rfl, rfl, trivial⟩, Ex.refl H0⟩) (fun H0 r0 i s Hc hi rc ec Sc => ?_) (fun i H0 Ha Hb e a => a.trans e) (fun H0 r0 s Hc rc ec Sc => ?_)
  · have hi : i < n := by omega
    have hl : (rowsI L i).length ≤ 100000 := by rw [rowsI_len]; exact Nat.le_trans (pow_le h1 (by omega)) h2
    have hl2 : (rowsI L (i + 1)).length ≤ 100000 := by rw [rowsI_len]; exact Nat.le_trans (pow_le h1 (by omega)) h2
    have hL : L ≤ 100000 := by have : L ^ 1 ≤ L ^ n := pow_le h1 (by omega); rw [Nat.pow_one] at this; omega
    have eR : ((List.range (rowsI L i).length).flatMap fun a => (List.range L).map fun b => tI ((rowsI L i).getD a [] ++ [((b : Nat) : Int)])) = (rowsI L (i + 1)).map tI := by
      rw [range_flatMap (fun row => (List.range L).map fun b => tI (row ++ [((b : Nat) : Int)])) [] (rowsI L i), rowsI, List.map_flatMap]
      congr 1
      funext row
      rw [List.map_map]
      rfl
    refine st_set (R := Ex) (p := newL K (fun _ => False) H ((rowsI L (i + 1)).map tI)) Sc ((ev_lc2N (K := K) (Z := fun _ j => im K (fun _ => False) (.int (j : Nat))) (fun _ => L) (fun a b => tI ((rowsI L i).getD a [] ++ [((b : Nat) : Int)])) (by decide) (fun a => ps_im (plain_tI _)) (src_map (K := K) tI [] ((ev_var (i := 2) rfl).conv fun _ _ _ z => z.im)) (by rw [eR, List.length_map]; exact Nat.le_trans hl2 (by decide)) (fun a b _ _ => plain_tI _) (fun a Hd ha rd => (srcD_range1 (K := K) (n := (L : Nat)) (ev_var (i := 0) rfl) (by omega) (by omega)).conv (Int.toNat_natCast L) fun _ _ _ _ z => z)
      (fun a b Hd ha hb rd => ev_catI (ns := (rowsI L i).getD a []) (ms := [((b : Nat) : Int)]) (ev_var (i := 4) rfl) (ev_tup (ds := [.int (b : Nat)]) (ea_cons (ev_var (i := 5) rfl) ea_nil) (show 1 ≤ sizeLine by decide)) (by rw [(rowsI_mem (getD_mem [] ha)).1]; simp; omega))).conv fun v Hd rd z => ?_) fun s2 H2 r2 S2 => ⟨rc.trans (RB.of_ex r2), ec.trans r2, S2.weak ⟨rfl, rfl, trivial⟩⟩
    rw [eR] at z
    exact z.back ((r1.trans r0).trans ec)
  · rw [Int.toNat_natCast] at Sc
    exact st_ret (R := Ex) Sc (ev_var (i := 2) rfl) fun v H2 r2 hv => q v H2 (((r1.trans r0).trans ec).trans r2) hv
theorem ok_upto {f : Addr} {fd : FuncData} (F : FnP K "words_upto" s_words_upto f fd) {f_letter_rows : Addr} {fd_letter_rows : FuncData} (F_letter_rows : FnP K "letter_rows" s_letter_rows f_letter_rows fd_letter_rows) (b_letter_rows : Binds K fd_letter_rows ["letters", "size"] []) (g_letter_rows : mg "letter_rows" = some (.ref f_letter_rows)) {f_told_form : Addr} {fd_told_form : FuncData} (F_told_form : FnP K "told_form" s_told_form f_told_form fd_told_form) (b_told_form : Binds K fd_told_form ["word"] []) (g_told_form : mg "told_form" = some (.ref f_told_form)) {f_shortest_round : Addr} {fd_shortest_round : FuncData} (F_shortest_round : FnP K "shortest_round" s_shortest_round f_shortest_round fd_shortest_round) (b_shortest_round : Binds K fd_shortest_round ["again"] []) (g_shortest_round : mg "shortest_round" = some (.ref f_shortest_round)) (m_len : mg "len" = none) (m_range : mg "range" = none) (m_tuple : mg "tuple" = none) : FnOk P w K mg base CX0 3 f fd ["letters", "size"] (spUpto K) := by
  have G_letter_rows : FnOk P w K mg base CX0 1 _ _ _ (spLR K) := ok_lrows F_letter_rows m_range
  have G_told_form : FnOk P w K mg base CX0 2 _ _ _ (spTold K) := ok_told F_told_form F_shortest_round b_shortest_round g_shortest_round m_len m_range m_tuple
  refine F.ok sc_words_upto (fun vs H Q E h => pureSp.len (n := 2) (fun _ => rfl) h) (fun cdv A outer s H vs Q E hr h => ⟨_, PSs.nox (pss_cons (ps_set (i := 2) sc_words_upto.nd rfl (.inl rfl) (pe_lst pa_nil))
 (pss_cons (ps_for PassesOwn.never rfl (pi_range2 (by rfl) m_range (pa_cons pe_int (pa_cons (pe_op (op_addK K) (pv 1) pe_int) pa_nil))) (pg_name (i := 3) sc_words_upto.nd rfl (.inr rfl))
 (pss_one (ps_for PassesOwn.never rfl (pi_range1 (by rfl) m_range (pa_cons (pv 3) pa_nil)) (pg_name (i := 4) sc_words_upto.nd rfl (.inr rfl))
 (pss_cons (ps_setLc2 (i := 5) (own := [("one", 6), ("other", 7)]) (vs1 := [7]) (by rfl) sc_words_upto.nd rfl rfl (sw_true rfl rfl rfl (by decide +kernel)) (pi_seqK K (pe_call G_letter_rows (hr.mono (by decide)) (by rfl) g_letter_rows F_letter_rows.kp b_letter_rows .nil pass0 (pa_cons (pv 0) (pa_cons (pv 4) pa_nil)))) (blkOk_by (own := [("one", 6), ("other", 7)]) (N := N_words_upto) (sc := defScope s_words_upto) (by decide +kernel)) (by decide) (fun _ _ _ _ _ => (pg_name (i := 6) sc_words_upto.nd rfl (.inl rfl))) (fun _ _ _ _ _ => pts_nil) (fun _ _ _ _ _ => (pi_seqK K (pe_call G_letter_rows (hr.mono (by decide)) (by rfl) g_letter_rows F_letter_rows.kp b_letter_rows .nil pass0 (pa_cons (pv 0) (pa_cons (pe_op op_sub (pv 3) (pv 4)) pa_nil))))) (fun _ _ _ _ _ => (pg_name (i := 7) sc_words_upto.nd rfl (.inl rfl))) (fun _ _ _ _ _ => pts_nil) (fun _ _ _ _ _ => (pe_tup (pa_cons (pv 6) (pa_cons (pv 7) pa_nil)))))
 (pss_one (ps_expr (pe_bm PySem.F.plainAttrs_list PySem.F.slot_list_extend PySem.F.type_list_extend mt_extend (pv 2) (pa_cons (pe_lc (own := [("word", 8)]) (by rfl) sc_words_upto.nd (pi_seqK K (pv 5)) (blkOk_by (own := [("word", 8)]) (N := N_words_upto) (sc := defScope s_words_upto) (by decide +kernel)) (fun _ _ _ _ _ => (pg_name (i := 8) sc_words_upto.nd rfl (.inl rfl))) (fun _ _ _ _ _ => (pts_one (pt_cmpR (op_eqK K hr.units) (pe_call G_told_form (hr.mono (by decide)) (by rfl) g_told_form F_told_form.kp b_told_form .nil pass0 (pa_cons (pv 8) pa_nil)) (pv 8) (nomark _)))) (fun _ _ _ _ _ => (pv 8))) pa_nil))))))))
 (pss_one (ps_ret (pe_callTy (call_tupleK K) (by rfl) m_tuple (by decide +kernel) (pa_cons (pv 2) pa_nil)))))), ?_⟩)
  obtain ⟨B, ⟨L, n⟩, o, hv, ⟨h1, h2, h3⟩, q⟩ := h
  dsimp only at hv h1 h2 h3 q
  have S := SD.start (N := N_words_upto) o hv
  refine sq_set (R := Ex) (p := newL K B H []) S (ev_lstN (ds := []) ea_nil (Nat.zero_le _)) fun s1 H1 r1 S1 => ?_
  obtain ⟨p, nb, np, hp, S2⟩ := S1.ownN 2 rfl
  refine sq_forR2 (R := Ex) (K := K) (a := 1) (b := (n : Int) + 1) S2 ev_int (ev_add (ev_var (i := 1) rfl) ev_int) ⟨by decide, by decide, by omega, by omega⟩
    (fun i s Hc => Ex H Hc ∧ (∃ vs, Hc p = some (.lst vs) ∧ imAll K B ((due L i).map wdp) vs Hc) ∧ SD B Hc s [some (im K B (.int (L : Nat))), some (im K B (.int (n : Nat))), some (isP (.ref p)), none, none, none, none, none, none])
    (fun H0 r0 S0 => ⟨r1.trans r0, ⟨[], r0 _ _ hp, rfl⟩, S0.weak ⟨rfl, rfl, rfl, trivial⟩⟩) (fun i s Hc hi ⟨ec, ⟨vs, hp, hv⟩, S⟩ => ?_) (fun s Hc ⟨ec, ⟨vs, hp, hv⟩, S⟩ => ?_)
  · have hi : i < n := by omega
    have pw := pow_cnt (L := L) (show 1 ≤ i + 1 by omega) (show i + 1 ≤ n by omega)
    have pw1 : L ^ (i + 1) ≤ (i + 1) * L ^ (i + 1) := Nat.le_mul_of_pos_left _ (by omega)
    have S := S.set (i := 3) (v := .int (1 + (i : Int))) (p := im K B (.int ((i + 1 : Nat) : Int))) (by show V.int _ = V.int _; congr 1; omega)
    refine st_forR (R := Ex) (K := K) (n := ((i + 1 : Nat) : Int)) S (ev_var (i := 3) rfl) (by omega) (by omega)
      (fun j s Hc => Ex H Hc ∧ (∃ vs, Hc p = some (.lst vs) ∧ imAll K B ((due L i ++ (List.range j).flatMap fun k => (blk L (i + 1) k).filter isTold).map wdp) vs Hc) ∧ SD B Hc s [some (im K B (.int (L : Nat))), some (im K B (.int (n : Nat))), some (isP (.ref p)), some (im K B (.int ((i + 1 : Nat) : Int))), none, none, none, none, none])
      (fun H0 r0 S0 => ⟨ec.trans r0, ⟨vs, r0 _ _ hp, by simp only [List.range_zero, List.flatMap_nil, List.append_nil]; exact imAll_st (RB.of_ex r0) _ _ hv⟩, S0.weak ⟨rfl, rfl, rfl, rfl, trivial⟩⟩) (fun j s Hc hj ⟨ec, ⟨vs, hp, hv⟩, S⟩ => ?_) (fun s Hc ⟨ec, ⟨vs, hp, hv⟩, S⟩ => ⟨ec, ⟨vs, hp, by rw [due_succ]; rw [Int.toNat_natCast] at hv; exact hv⟩, S.weak ⟨rfl, rfl, rfl, trivial⟩⟩)
    have hj : j < i + 1 := by omega
    have S := S.set (i := 4) (v := .int (j : Int)) (p := im K B (.int (j : Nat))) rfl
    have eR : ((List.range (rowsI L j).length).flatMap fun a => (List.range (rowsI L (i + 1 - j)).length).map fun b => wd ((rowsI L j).getD a []) ((rowsI L (i + 1 - j)).getD b [])) = (blk L (i + 1) j).map wdp := by
      rw [range_flatMap (fun row => (List.range (rowsI L (i + 1 - j)).length).map fun b => wd row ((rowsI L (i + 1 - j)).getD b [])) [] (rowsI L j), blk, List.map_flatMap]
      congr 1
      funext row
      rw [range_map (fun r => wd row r) [], List.map_map]
      rfl
    have bl := blk_len L (i + 1) j (by omega)
    have pre : ∀ k, k ≤ i + 1 → 1 ≤ L ∧ L ^ k ≤ 100000 ∧ k ≤ 100 := fun k hk => ⟨h1, by have := pow_le h1 hk; omega, by omega⟩
    refine sq_set (R := Ex) (p := im K B (.list ((blk L (i + 1) j).map wdp))) S ((ev_lc2N (K := K) (Z := fun _ b => im K B (tI ((rowsI L (i + 1 - j)).getD b []))) (fun _ => (rowsI L (i + 1 - j)).length) (fun a b => wd ((rowsI L j).getD a []) ((rowsI L (i + 1 - j)).getD b [])) (by decide) (fun a => ps_im (plain_tI _))
      (src_map (K := K) tI [] ((ev_callNew (L, j) (ea_cons (ev_var (i := 0) rfl) (ea_cons (ev_var (i := 4) rfl) ea_nil)) (pre j (by omega)) rfl (plain_tIs _)).conv fun _ _ _ z => z.im)) (by rw [eR, List.length_map, bl]; exact Nat.le_trans (pre (i + 1) (by omega)).2.1 (by decide)) (fun a b _ _ => plain_wd _ _)
      (fun a Hd ha rd => srcD_newL (K := K) tI [] (plain_tIs _) fun He re => ev_callNew (L, i + 1 - j) (ea_cons (ev_var (i := 0) rfl) (ea_cons ((ev_sub (ev_var (i := 3) rfl) (ev_var (i := 4) rfl)).is (by rw [Int.natCast_sub (by omega)])) ea_nil)) (pre (i + 1 - j) (by omega)) rfl (plain_tIs _))
      (fun a b Hd ha hb rd => ev_tup (ds := [tI ((rowsI L j).getD a []), tI ((rowsI L (i + 1 - j)).getD b [])]) (ea_cons (ev_var (i := 6) rfl) (ea_cons (ev_var (i := 7) rfl) ea_nil)) (show 2 ≤ sizeLine by decide))).conv fun v Hd rd z => by rw [eR] at z; exact z.im) fun s3 H3 r3 S3 => ?_
    have ll := due_len L i
    have lc : cnt L i ≤ cnt L n := cnt_le (by omega)
    have lp := layp_len L (i + 1) j (by omega)
    have lp2 : j * L ^ (i + 1) ≤ (i + 1) * L ^ (i + 1) := Nat.mul_le_mul_right _ (by omega)
    refine st_extendW (K := K) (ds := (due L i ++ (List.range j).flatMap fun k => (blk L (i + 1) k).filter isTold).map wdp) (es := ((blk L (i + 1) j).filter isTold).map wdp) (δ' := [some (im K B (.int (L : Nat))), some (im K B (.int (n : Nat))), some (isP (.ref p)), some (im K B (.int ((i + 1 : Nat) : Int))), none, none, none, none, none]) S3 ⟨rfl, rfl, rfl, rfl, trivial⟩ ⟨ps_im rfl, ps_im rfl, ps_is, ps_im rfl, trivial⟩ rfl (r3 _ _ hp) (imAll_st (RB.of_ex r3) _ _ hv) (plain_wds _) (plain_wds _) ?_
      (ev_lcFilterL (K := K) wdp wdp isTold ([], []) (ev_var (i := 5) rfl) (by rw [bl]; exact Nat.le_trans (pre (i + 1) (by omega)).2.1 (by decide)) (fun x _ => plain_wd _ _) (fun x Hd hx rd => (et_test (ev_eq (ev_call x (ea_cons (ev_var (i := 8) rfl) ea_nil) ?_) (ev_var (i := 8) rfl) (shaped_wd _ _) (shaped_wd _ _))).is ?_) fun x Hd hx _ rd => ev_var (i := 8) rfl) fun ws H4 r4 S4 hv4 => ⟨(ec.trans (r3.trans r4)).mut np, ⟨_, upd_same, ?_⟩, S4⟩
    · rw [List.length_map, List.length_map, List.length_append]
      have := List.length_filter_le isTold (blk L (i + 1) j)
      have : (300000 : Nat) ≤ sizeLine := by decide
      have := (pre (i + 1) (by omega)).2.1
      omega
    · obtain ⟨g1, g2, g3, _⟩ := blk_mem hj hx
      exact ⟨g3, by omega, by omega⟩
    · rw [eqv_wd]; rfl
    · rw [List.range_succ, List.flatMap_append, ← List.append_assoc, List.map_append]
      simp only [List.flatMap_cons, List.flatMap_nil, List.append_nil]
      exact hv4
  · have e : ((n : Int) + 1 - 1).toNat = n := by omega
    rw [e] at hv
    exact st_ret (R := Ex) S (ev_tupleR ((ev_var (i := 2) rfl).own nb hp hv)) fun v H2 r2 hv => q v H2 (ec.trans r2) hv
end
abbrev s__law_letter : Stmt := top 13
abbrev N__law_letter : List Str := ["_law_word_here", "_law_k", "_law_beginning", "_law_ring"]
theorem sc__law_letter : FnScope N__law_letter ["_law_word_here", "_law_k"] (defScope s__law_letter) := ⟨rfl, rfl, rfl, by decide +kernel, rfl, by decide +kernel, by decide +kernel⟩

section
variable {P : Program} {w : World} {K : PySem.W.Frag} {mg : Str → Option Value} {base : Heap}
theorem ok_lletter {f : Addr} {fd : FuncData} {k : Nat} (F : FnP K "_law_letter" s__law_letter f fd) (m_len : mg "len" = none) : FnOk P w K mg base CX0 (k + 1) f fd ["_law_word_here", "_law_k"] (spLetterAt K) := by
  refine F.ok sc__law_letter (fun vs H Q E h => pureSp.len (n := 2) (fun _ => rfl) h) (fun cdv A outer s H vs Q E hr h => ⟨_, PSs.nox (pss_cons (ps_asg (pv 0) (pg_tup rfl (pgs_cons (pg_name (i := 2) sc__law_letter.nd rfl (.inl rfl)) (pgs_cons (pg_name (i := 3) sc__law_letter.nd rfl (.inl rfl)) pgs_nil))))
 (pss_one (ps_ret (pe_ifExp (pt_cmpR op_lt (pv 1) (pe_callB (call_lenK K) (by rfl) m_len PySem.boot_len (pa_cons (pv 2) pa_nil)) (nomark _)) (pe_ix (ix_seqK K) (pv 2) (pv 1) (fun _ _ => rfl)) (pe_ix (ix_seqK K) (pv 3) (pe_op op_modN (pe_op op_sub (pv 1) (pe_callB (call_lenK K) (by rfl) m_len PySem.boot_len (pa_cons (pv 2) pa_nil))) (pe_callB (call_lenK K) (by rfl) m_len PySem.boot_len (pa_cons (pv 3) pa_nil))) (fun _ _ => rfl)))))), ?_⟩)
  obtain ⟨B, ⟨b, r, k⟩, o, hv, ⟨hk, hr⟩, q⟩ := h
  dsimp only at hv hk hr q
  have S := SD.start (N := N__law_letter) o hv
  refine (sq_unpack2 (R := Ex) S (ev_var rfl) fun σ1 H1 r1 S1 => ?_)
  have hl : (0 : Int) < r.length := by
    have := List.length_pos_iff.mpr hr
    omega
  refine st_ret (R := Ex) S1 (p := im K B (.int (letterAt b r k))) (ev_if (et_test (ev_lt (ev_var rfl) (ev_lenI (ev_var rfl)))) (fun hc => ?_) (fun hc => ?_)) fun v H3 r3 hv => q v H3 (r1.trans r3) hv
  · have hc := of_decide_eq_true hc
    refine (ev_ixT (ev_var rfl) (ev_var rfl) (atI_ints hk hc)).is ?_
    unfold letterAt
    rw [if_pos hc]
  · have hc := of_decide_eq_false hc
    have e : (k - (b.length : Int)).fmod r.length = (k - b.length) % r.length := Int.fmod_eq_emod_of_nonneg _ (by omega)
    refine (ev_ixT (ev_var rfl) (ev_mod (ev_sub (ev_var rfl) (ev_lenI (ev_var rfl))) (ev_lenI (ev_var rfl)) (by omega)) (atI_ints (by rw [e]; exact Int.emod_nonneg _ (by omega)) (by rw [e]; exact Int.emod_lt_of_pos _ hl))).is ?_
    unfold letterAt
    rw [if_neg hc, e]
end
abbrev s__law_row : Stmt := top 14
abbrev N__law_row : List Str := ["_law_hand_here", "_law_letters", "_law_many", "_law_k"]
theorem sc__law_row : FnScope N__law_row ["_law_hand_here", "_law_letters", "_law_many"] (defScope s__law_row) := ⟨rfl, rfl, rfl, by decide +kernel, rfl, by decide +kernel, by decide +kernel⟩

abbrev s__law_word : Stmt := top 15
abbrev N__law_word : List Str := ["_law_hand_here", "_law_letters", "_law_beginning", "_law_ring", "_law_way", "_law_at"]
theorem sc__law_word : FnScope N__law_word ["_law_hand_here", "_law_letters"] (defScope s__law_word) := ⟨rfl, rfl, rfl, by decide +kernel, rfl, by decide +kernel, by decide +kernel⟩

abbrev Ltr (L : Int) (ns : List Int) : Prop := ∀ x ∈ ns, 0 ≤ x ∧ x < L
abbrev spRow (K : PySem.W.Frag) : Sp := handSp (α := Int × Int) (β := List Int) K (fun a => [.int a.1, .int a.2]) (fun a => 1 ≤ a.1 ∧ a.1 ≤ 1000 ∧ 0 ≤ a.2 ∧ a.2 ≤ 1000) (fun a ns => (ns.length : Int) = a.2 ∧ Ltr a.1 ns) (fun ns => tI ns)
abbrev spWord (K : PySem.W.Frag) : Sp := handSp (α := Int) (β := List Int × List Int) K (fun L => [.int L]) (fun L => 1 ≤ L ∧ L ≤ 1000) (fun L a => a.2 ≠ [] ∧ a.1.length ≤ 64 ∧ a.2.length ≤ 20 ∧ Ltr L a.1 ∧ Ltr L a.2) (fun a => wd a.1 a.2)
theorem Ltr.append {L : Int} {xs ys : List Int} (h : Ltr L xs) (h' : Ltr L ys) : Ltr L (xs ++ ys) := fun x hx => (List.mem_append.mp hx).elim (h x) (h' x)
theorem Ltr.rep {L : Int} {xs : List Int} (h : Ltr L xs) (k : Nat) : Ltr L (List.replicate k xs).flatten := fun x hx => by
  obtain ⟨l, hl, hx⟩ := List.mem_flatten.mp hx
  rw [(List.mem_replicate.mp hl).2] at hx
  exact h x hx
theorem Ltr.take {L : Int} {xs : List Int} (h : Ltr L xs) (k : Nat) : Ltr L (xs.take k) := fun x hx => h x (List.mem_of_mem_take hx)
theorem Ltr.drop {L : Int} {xs : List Int} (h : Ltr L xs) (k : Nat) : Ltr L (xs.drop k) := fun x hx => h x (List.mem_of_mem_drop hx)
section
variable {P : Program} {w : World} {K : PySem.W.Frag} {mg : Str → Option Value} {base : Heap}
theorem ok_row {f f1 : Addr} {fd fd1 : FuncData} (F : FnP K "_law_row" s__law_row f fd) (F__law_pick : FnP K "_law_pick" s__law_pick f1 fd1) (b__law_pick : Binds K fd1 ["_law_hand_here", "_law_many"] []) (g__law_pick : mg "_law_pick" = some (.ref f1))
    (m_tuple : mg "tuple" = none) (m_range : mg "range" = none) : FnOk P w K mg base CX0 2 f fd ["_law_hand_here", "_law_letters", "_law_many"] (spRow K) := by
  have G__law_pick : FnOk P w K mg base CX0 1 f1 fd1 ["_law_hand_here", "_law_many"] spPick := ok_pick F__law_pick
  refine F.ok sc__law_row (fun vs H Q E h => handSp.len (n := 2) (fun _ => rfl) h) (fun cdv A outer s H vs Q E hr h => ⟨_, PSs.nox (pss_one (ps_ret (pe_callTy (call_tupleK K) (by rfl) m_tuple (by decide +kernel) (pa_cons (pe_lc (own := [("_law_k", 3)]) (by rfl) sc__law_row.nd (pi_range1 (by rfl) m_range (pa_cons (pv 2) pa_nil)) (blkOk_by (own := [("_law_k", 3)]) (N := N__law_row) (sc := defScope s__law_row) (by decide +kernel)) (fun _ _ _ _ _ => (pg_name (i := 3) sc__law_row.nd rfl (.inl rfl))) (fun _ _ _ _ _ => pts_nil) (fun _ _ _ _ _ => (pe_call G__law_pick (hr.mono (by decide)) (by rfl) g__law_pick F__law_pick.kp b__law_pick .nil pass0 (pa_cons (pv 0) (pa_cons (pv 1) pa_nil))))) pa_nil)))), ?_⟩)
  obtain ⟨B, h, l, ⟨L, n⟩, us, hs, o, hk, rfl, hv, ⟨l1, l2, n1, n2⟩, q⟩ := h
  dsimp only at hv l1 l2 n1 n2 q
  have S := SD.startH (N := N__law_row) (h := h) o hv
  refine st_ret (R := Rh h l) S (ev_tupleLx (K := K) (ev_picks (K := K) (m := L) (N := (· = n)) hk (ev_intN (K := K) (ev_var rfl)) (fun z e => by omega) (fun i Hc r => ev_var rfl) (fun i Hc r => ev_var rfl) l1 (by omega))) fun v H2 r2 ⟨ns, c, hv⟩ => q ns v H2 c r2 hv
theorem ok_word {f f1 f2 : Addr} {fd fd1 fd2 : FuncData} (F : FnP K "_law_word" s__law_word f fd) (F__law_pick : FnP K "_law_pick" s__law_pick f1 fd1) (b__law_pick : Binds K fd1 ["_law_hand_here", "_law_many"] []) (g__law_pick : mg "_law_pick" = some (.ref f1))
    (F__law_row : FnP K "_law_row" s__law_row f2 fd2) (b__law_row : Binds K fd2 ["_law_hand_here", "_law_letters", "_law_many"] []) (g__law_row : mg "_law_row" = some (.ref f2))
    (m_tuple : mg "tuple" = none) (m_range : mg "range" = none) (m_len : mg "len" = none) : FnOk P w K mg base CX0 3 f fd ["_law_hand_here", "_law_letters"] (spWord K) := by
  have G__law_pick : FnOk P w K mg base CX0 1 f1 fd1 ["_law_hand_here", "_law_many"] spPick := ok_pick F__law_pick
  have G__law_row : FnOk P w K mg base CX0 2 f2 fd2 ["_law_hand_here", "_law_letters", "_law_many"] (spRow K) := ok_row F__law_row F__law_pick b__law_pick g__law_pick m_tuple m_range
  refine F.ok sc__law_word (fun vs H Q E h => handSp.len (n := 1) (fun _ => rfl) h) (fun cdv A outer s H vs Q E hr h => ⟨_, PSs.nox (pss_cons (ps_par (i := 2) (j := 3) (by rfl) sc__law_word.nd rfl rfl (by decide) rfl rfl (pa_cons (pe_call G__law_row (hr.mono (by decide)) (by rfl) g__law_row F__law_row.kp b__law_row .nil pass0 (pa_cons (pv 0) (pa_cons (pv 1) (pa_cons (pe_call G__law_pick (hr.mono (by decide)) (by rfl) g__law_pick F__law_pick.kp b__law_pick .nil pass0 (pa_cons (pv 0) (pa_cons pe_int pa_nil))) pa_nil)))) (pa_cons (pe_call G__law_row (hr.mono (by decide)) (by rfl) g__law_row F__law_row.kp b__law_row .nil pass0 (pa_cons (pv 0) (pa_cons (pv 1) (pa_cons (pe_op (op_addK K) pe_int (pe_call G__law_pick (hr.mono (by decide)) (by rfl) g__law_pick F__law_pick.kp b__law_pick .nil pass0 (pa_cons (pv 0) (pa_cons pe_int pa_nil)))) pa_nil)))) pa_nil)) (by rfl))
 (pss_cons (ps_set (i := 4) sc__law_word.nd rfl (.inl rfl) (pe_call G__law_pick (hr.mono (by decide)) (by rfl) g__law_pick F__law_pick.kp b__law_pick .nil pass0 (pa_cons (pv 0) (pa_cons pe_int pa_nil))))
 (C8.pss_cut (ps_if (pt_cmpR op_gt (pv 4) pe_int (nomark _))
 (pss_one (ps_set (i := 3) sc__law_word.nd rfl (.inl rfl) (pe_op (op_mulK K) (pv 3) (pe_op (op_addK K) pe_int (pe_call G__law_pick (hr.mono (by decide)) (by rfl) g__law_pick F__law_pick.kp b__law_pick .nil pass0 (pa_cons (pv 0) (pa_cons pe_int pa_nil)))))))
 pss_nil)
 (C8.pss_cut (ps_if (pt_cmpR (op_eqK K hr.units) (pe_op op_modN (pv 4) pe_int) pe_int (nomark _))
 (pss_cons (ps_set (i := 2) sc__law_word.nd rfl (.inl rfl) (pe_op (op_addK K) (pv 2) (pe_op (op_mulK K) (pv 3) (pe_call G__law_pick (hr.mono (by decide)) (by rfl) g__law_pick F__law_pick.kp b__law_pick .nil pass0 (pa_cons (pv 0) (pa_cons pe_int pa_nil))))))
 (pss_cons (ps_set (i := 2) sc__law_word.nd rfl (.inl rfl) (pe_op (op_addK K) (pv 2) (pe_slice (sl_seqK K) (pv 3) po_none (po_some (pe_call G__law_pick (hr.mono (by decide)) (by rfl) g__law_pick F__law_pick.kp b__law_pick .nil pass0 (pa_cons (pv 0) (pa_cons (pe_callB (call_lenK K) (by rfl) m_len PySem.boot_len (pa_cons (pv 3) pa_nil)) pa_nil)))))))
 (pss_cons (ps_set (i := 5) sc__law_word.nd rfl (.inl rfl) (pe_op op_modN (pe_op (op_addK K) (pe_callB (call_lenK K) (by rfl) m_len PySem.boot_len (pa_cons (pv 2) pa_nil)) (pe_call G__law_pick (hr.mono (by decide)) (by rfl) g__law_pick F__law_pick.kp b__law_pick .nil pass0 (pa_cons (pv 0) (pa_cons pe_int pa_nil)))) (pe_callB (call_lenK K) (by rfl) m_len PySem.boot_len (pa_cons (pv 3) pa_nil))))
 (pss_one (ps_set (i := 3) sc__law_word.nd rfl (.inl rfl) (pe_op (op_addK K) (pe_slice (sl_seqK K) (pv 3) (po_some (pv 5)) po_none) (pe_slice (sl_seqK K) (pv 3) po_none (po_some (pv 5)))))))))
 pss_nil)
 (pss_one (ps_ret (pe_tup (pa_cons (pv 2) (pa_cons (pv 3) pa_nil))))))))), ?_⟩)
  obtain ⟨B, h, l, L, us, hs, o, hk, rfl, hv, ⟨l1, l2⟩, q⟩ := h
  dsimp only at hv l1 l2 q
  have S := SD.startH (N := N__law_word) (h := h) o hv
  have row : ∀ {δ : List (Option PV)} {Hc : Hp} {tn : TE} {N : Int → Prop}, HandOk h l Hc → δ[0]? = some (some (isP (.ref h))) → δ[1]? = some (some (im K B (.int L))) → Ev (Rh h l) B tn δ Hc (intP N) → (∀ n, N n → 0 ≤ n ∧ n ≤ 1000) →
      Ev (Rh h l) B (tCall (spRow K) [] E0 (tCons (tVar 0) (tCons (tVar 1) (tCons tn tNil)))) δ Hc (exP (fun ns : List Int => ∃ a : Int × Int, (a.1 = L ∧ N a.2) ∧ (ns.length : Int) = a.2 ∧ Ltr a.1 ns) fun ns => im K B (tI ns)) := fun {δ Hc tn N} hk e0 e1 hn hN =>
    ev_hand (K := K) (args := fun a : Int × Int => [.int a.1, .int a.2]) (A := fun a => a.1 = L ∧ N a.2) hk (ev_var e0) (ea_cons (ev_var e1) (ea_cons hn ea_nil)) (fun us H1 ⟨v, r, e, hv, v2, r2, e2, ⟨n, c, hv2⟩, e3⟩ => ⟨(L, n), ⟨rfl, c⟩, v, r, e, hv, v2, r2, e2, hv2, e3⟩) fun a ⟨ha, hb⟩ => by
      have := hN _ hb
      refine ⟨?_, ?_, this.1, this.2⟩ <;> omega
  refine sq_par (R := Rh h l) S (ea_cons (row hk rfl rfl (ev_pickI (K := K) hk (ev_var rfl) ev_int (by decide) (by decide)) (fun n c => by omega)) (ea_cons (row hk rfl rfl (ev_addN (K := K) (ev_intN (K := K) ev_int) (ev_pickI (K := K) hk (ev_var rfl) ev_int (by decide) (by decide))) (fun n ⟨i, j, e, c, e2⟩ => by omega)) ea_nil)) fun s1 H1 r1 S1 => ?_
  have hk := r1.ok hk
  obtain ⟨b, ⟨⟨a1, a2⟩, ⟨e1, c1⟩, e2, lb⟩, S1⟩ := S1.opn 2 rfl
  obtain ⟨r, ⟨⟨a3, a4⟩, ⟨e3, i, j, e4, c2, e5⟩, e6, lr⟩, S1⟩ := S1.opn 3 rfl
  dsimp only at e1 e2 e3 e6 lb lr c1 e5
  rw [e1] at lb
  rw [e3] at lr
  have hb : b.length ≤ 5 := by omega
  have hr1 : 1 ≤ r.length ∧ r.length ≤ 5 := by omega
  clear e2 e4 e5 e6 c1 c2
  refine sq_setx (R := Rh h l) S1 (Ev.intx (K := K) (ev_pickI (K := K) hk (ev_var rfl) ev_int (by decide) (by decide))) fun way s2 H2 cw r2 S2 => ?_
  have hk := r2.ok hk
  -- the round repeated
  refine cut_if (R := Rh h l) (fun s Hc => Rh h l H2 Hc ∧ ∃ r : List Int, 1 ≤ r.length ∧ r.length ≤ 20 ∧ Ltr L r ∧ SD B Hc s [some (isP (.ref h)), some (im K B (.int L)), some (im K B (tI b)), some (im K B (tI r)), some (im K B (.int way)), none]) S2 (et_test (ev_gt (ev_var (i := 4) rfl) ev_int)) (fun _ H3 r3 S3 => ?_) (fun _ H3 r3 S3 => ⟨r3, r, hr1.1, by omega, lr, S3⟩) fun s3 H3 ⟨r3, r, hr1, hr2, lr, S3⟩ => ?_
  · have hk := r3.ok hk
    refine st_setx (R := Rh h l) (C := fun k : Int => 2 ≤ k ∧ k ≤ 4) (q := fun k => im K B (tI (List.replicate k.toNat r).flatten)) S3 (ev_op (ev_var (i := 3) rfl) (ev_addN (K := K) (ev_intN (K := K) ev_int) (ev_pickI (K := K) hk (ev_var (i := 0) rfl) ev_int (by decide) (by decide))) fun x y Hc _ _ hx ⟨k, ⟨i, j, e, c, e2⟩, hy⟩ Q qq => ?_) fun k s4 H4 ck r4 S4 => ⟨Rok.tr B r3 r4, _, ?_, ?_, lr.rep k.toNat, S4⟩
    · refine rv_rep hx hy (by omega) (by omega) (by rw [List.length_map]; omega) Q fun v H5 e5 hv => qq v H5 e5 ⟨k, ⟨by omega, by omega⟩, ?_⟩
      exact im_rep hv
    · rw [rep_len]
      have : 1 * 1 ≤ k.toNat * r.length := Nat.mul_le_mul (by omega) hr1.1
      omega
    · rw [rep_len]
      have : k.toNat * r.length ≤ 4 * 5 := Nat.mul_le_mul (by omega) (by omega)
      omega
  -- the beginning that ends in rounds
  have hk := r3.ok hk
  have r23 := Rok.tr B (Rok.tr B r1 r2) r3
  have hrn : ∀ {r : List Int}, 1 ≤ r.length → r ≠ [] := fun {r} z e => by rw [e] at z; exact absurd z (by decide)
  refine cut_if (R := Rh h l) (fun s Hc => Rh h l H3 Hc ∧ ∃ b r : List Int, b.length ≤ 64 ∧ 1 ≤ r.length ∧ r.length ≤ 20 ∧ Ltr L b ∧ Ltr L r ∧ SD B Hc s [none, none, some (im K B (tI b)), some (im K B (tI r)), none, none]) S3 (et_test (ev_eqI (ev_mod (ev_var (i := 4) rfl) ev_int (by decide)) ev_int)) (fun _ H4 r4 S4 => ?_) (fun _ H4 r4 S4 => ⟨r4, b, r, by omega, hr1, hr2, lb, lr, S4.weak ⟨rfl, rfl, trivial⟩⟩) fun s4 H4 ⟨r4, b, r, hb, hr1, hr2, lb, lr, S4⟩ => ?_
  · have hk := r4.ok hk
    refine sq_setx (R := Rh h l) (C := fun k : Int => 0 ≤ k ∧ k ≤ 2) (q := fun k => im K B (tI (b ++ (List.replicate k.toNat r).flatten))) S4 (ev_op (q := exP (fun k : Int => 0 ≤ k ∧ k ≤ 2) fun k => im K B (tI (List.replicate k.toNat r).flatten)) (ev_var (i := 2) rfl) (ev_op (ev_var (i := 3) rfl) (ev_pickI (K := K) hk (ev_var (i := 0) rfl) ev_int (by decide) (by decide)) fun x y Hc _ _ hx ⟨k, c, hy⟩ Q qq => ?_) fun x y Hc _ ok hx ⟨k, c, hy⟩ Q qq => ?_) fun k s5 H5 ck r5 S5 => ?_
    · refine rv_rep hx hy (by omega) (by omega) (by rw [List.length_map]; omega) Q fun v H5 e5 hv => qq v H5 e5 ⟨k, ⟨by omega, by omega⟩, ?_⟩
      exact im_rep hv
    · have hl : (List.replicate k.toNat r).flatten.length ≤ 40 := by
        rw [rep_len]
        exact Nat.mul_le_mul (show k.toNat ≤ 2 by omega) hr2
      refine rv_cat hx hy (by rw [List.length_map, List.length_map]; exact Nat.le_trans (show b.length + _ ≤ 1000 by omega) (by decide)) Q fun v H5 e5 hv => qq v H5 e5 ⟨k, c, ?_⟩
      exact im_app hv
    have hk := r5.ok hk
    have hl : (List.replicate k.toNat r).flatten.length ≤ 40 := by
      rw [rep_len]
      exact Nat.mul_le_mul (show k.toNat ≤ 2 by omega) hr2
    have lb := lb.append (lr.rep k.toNat)
    generalize eb : b ++ (List.replicate k.toNat r).flatten = b2 at S5 lb
    have hb2 : b2.length ≤ 45 := by rw [← eb, List.length_append]; omega
    refine sq_setx (R := Rh h l) (C := fun n : Nat => n < r.length) (q := fun n => im K B (tI (b2 ++ r.take n))) S5 (ev_op (q := exP (fun n : Nat => n < r.length) fun n => im K B (tI (r.take n))) (ev_var (i := 2) rfl) (ev_uptoN (ev_var (i := 3) rfl) (ev_pickI (K := K) hk (ev_var (i := 0) rfl) (ev_lenI (ev_var (i := 3) rfl)) (by omega) (by omega))) fun x y Hc _ ok hx ⟨n, c, hy⟩ Q qq => ?_) fun n s6 H6 cn r6 S6 => ?_
    · refine rv_cat hx hy (by rw [List.length_map, List.length_map, List.length_take]; exact Nat.le_trans (show b2.length + _ ≤ 1000 by omega) (by decide)) Q fun v H5 e5 hv => qq v H5 e5 ⟨n, c, ?_⟩
      exact im_app hv
    have hk := r6.ok hk
    have lb := lb.append (lr.take n)
    generalize eb3 : b2 ++ r.take n = b3 at S6 lb
    have hb3 : b3.length ≤ 64 := by rw [← eb3, List.length_append, List.length_take]; omega
    refine sq_setx (R := Rh h l) (C := fun n : Nat => n < r.length) (q := fun n => im K B (.int (n : Nat))) S6 (ev_op (ev_addN (K := K) (ev_intN (K := K) (ev_lenI (ev_var (i := 2) rfl))) (ev_pickI (K := K) hk (ev_var (i := 0) rfl) ev_int (by decide) (by decide))) (ev_lenI (ev_var (i := 3) rfl)) fun x y Hc _ _ ⟨k, _, hx⟩ hy Q qq => ?_) fun n s7 H7 cn r7 S7 => ?_
    · have e : k.fmod r.length = k % r.length := Int.fmod_eq_emod_of_nonneg _ (by omega)
      have h1 := Int.emod_nonneg k (b := r.length) (by omega)
      have h2 := Int.emod_lt_of_pos k (b := r.length) (by omega)
      refine rv_I (C := fun _ j => j ≠ 0) (g := fun i j => .int (i.fmod j)) hx hy (by omega) Q fun v H5 e5 hv => qq v H5 e5 ⟨(k % r.length).toNat, by omega, ?_⟩
      show v = _
      rw [show v = _ from hv, e, Int.toNat_of_nonneg h1]
    have hk := r7.ok hk
    refine st_set (R := Rh h l) (p := im K B (tI (r.drop n ++ r.take n))) S7 (ev_catI (ev_slI (ev_var (i := 3) rfl) (eo_some (K := K) (ev_var (i := 5) rfl)) eo_none cut_from) (ev_slI (ev_var (i := 3) rfl) eo_none (eo_some (K := K) (ev_var (i := 5) rfl)) cut_upto) (by rw [List.length_drop, List.length_take]; omega)) fun s8 H8 r8 S8 => ?_
    exact ⟨Rok.tr B (Rok.tr B (Rok.tr B (Rok.tr B r4 r5) r6) r7) r8, b3, r.drop n ++ r.take n, hb3, by rw [List.length_append, List.length_drop, List.length_take]; omega, by rw [List.length_append, List.length_drop, List.length_take]; omega, lb, (lr.drop n).append (lr.take n), S8.weak ⟨rfl, rfl, trivial⟩⟩
  refine st_ret (R := Rh h l) S4 (ev_tup (ds := [tI b, tI r]) (ea_cons (ev_var (i := 2) rfl) (ea_cons (ev_var (i := 3) rfl) ea_nil)) (show 2 ≤ sizeLine by decide)) fun v H5 r5 hv => q (b, r) v H5 ⟨hrn hr1, hb, hr2, lb, lr⟩ (Rok.tr B (Rok.tr B r23 r4) r5) hv
end
abbrev s__law_alike : Stmt := top 16
abbrev N__law_alike : List Str := ["_law_one", "_law_other", "_law_many", "_law_k"]
theorem sc__law_alike : FnScope N__law_alike ["_law_one", "_law_other"] (defScope s__law_alike) := ⟨rfl, rfl, rfl, by decide +kernel, rfl, by decide +kernel, by decide +kernel⟩

abbrev s__law_near : Stmt := top 17
abbrev N__law_near : List Str := ["_law_hand_here", "_law_words", "_law_letters", "_law_beginning", "_law_ring", "_law_at"]
theorem sc__law_near : FnScope N__law_near ["_law_hand_here", "_law_words", "_law_letters"] (defScope s__law_near) := ⟨rfl, rfl, rfl, by decide +kernel, rfl, by decide +kernel, by decide +kernel⟩

abbrev s_law : Stmt := top 18
abbrev N_law : List Str := ["_law_script", "_law_hand_here", "_law_letters", "_law_words", "_law_turn", "_law_one", "_law_form", "_law_k", "_law_some", "_law_other", "_law_due", "_law_many", "_law_found", "_law_ahead", "_law_j", "_law_word_here"]
theorem sc_law : FnScope N_law ["_law_script"] (defScope s_law) := ⟨rfl, rfl, rfl, by decide +kernel, rfl, by decide +kernel, by decide +kernel⟩

noncomputable def alikeB (w v : List Int × List Int) : Bool := decide (told (sq w.1 w.2) = told (sq v.1 v.2))
structure Gn (L : Int) (i : Nat) (w : List Int × List Int) : Prop where
  ne : w.2 ≠ []
  l1 : w.1.length ≤ 64 + i
  l2 : w.2.length ≤ 22
  a1 : Ltr L w.1
  a2 : Ltr L w.2
theorem Gn.up {L : Int} {i : Nat} {w : List Int × List Int} (g : Gn L i w) : Gn L (i + 1) w := ⟨g.ne, by have := g.l1; omega, g.l2, g.a1, g.a2⟩
abbrev spAlike (K : PySem.W.Frag) : Sp := pureSp (α := (List Int × List Int) × List Int × List Int) K (fun a => [wd a.1.1 a.1.2, wd a.2.1 a.2.2]) (fun a => (a.1.2 ≠ [] ∧ a.1.1.length ≤ 500 ∧ a.1.2.length ≤ 500) ∧ a.2.2 ≠ [] ∧ a.2.1.length ≤ 500 ∧ a.2.2.length ≤ 500) (fun a => .bool (alikeB a.1 a.2))
abbrev spNear (K : PySem.W.Frag) : Sp := handSp (α := List (List Int × List Int) × Nat × Nat) (β := List Int × List Int) K (fun a => [.list (a.1.map wdp), .int (a.2.1 : Nat)]) (fun a => a.1 ≠ [] ∧ a.1.length ≤ 100 ∧ 1 ≤ a.2.1 ∧ a.2.1 ≤ 1000 ∧ a.2.2 ≤ 100 ∧ ∀ w ∈ a.1, Gn a.2.1 a.2.2 w) (fun a c => Gn a.2.1 (a.2.2 + 1) c) (fun c => wd c.1 c.2)
section
variable {P : Program} {w : World} {K : PySem.W.Frag} {mg : Str → Option Value} {base : Heap}
theorem ok_alike {f : Addr} {fd : FuncData} (F : FnP K "_law_alike" s__law_alike f fd) {f__law_letter : Addr} {fd__law_letter : FuncData} (F__law_letter : FnP K "_law_letter" s__law_letter f__law_letter fd__law_letter) (b__law_letter : Binds K fd__law_letter ["_law_word_here", "_law_k"] []) (g__law_letter : mg "_law_letter" = some (.ref f__law_letter)) (m_len : mg "len" = none) (m_range : mg "range" = none) (m_all : mg "all" = none) (m_max : mg "max" = none) : FnOk P w K mg base CX0 2 f fd ["_law_one", "_law_other"] (spAlike K) := by
  have G__law_letter : FnOk P w K mg base CX0 1 _ _ ["_law_word_here", "_law_k"] (spLetterAt K) := ok_lletter F__law_letter m_len
  refine F.ok sc__law_alike (fun vs H Q E h => pureSp.len (n := 2) (fun _ => rfl) h) (fun cdv A outer s H vs Q E hr h => ⟨_, PSs.nox (pss_cons (ps_set (i := 2) sc__law_alike.nd rfl (.inl rfl) (pe_op (op_addK K) (pe_callB (call_max2 rfl) (by rfl) m_max (by decide +kernel) (pa_cons (pe_callB (call_lenK K) (by rfl) m_len PySem.boot_len (pa_cons (pe_ix (ix_seqK K) (pv 0) pe_int (fun _ _ => rfl)) pa_nil)) (pa_cons (pe_callB (call_lenK K) (by rfl) m_len PySem.boot_len (pa_cons (pe_ix (ix_seqK K) (pv 1) pe_int (fun _ _ => rfl)) pa_nil)) pa_nil))) (pe_op (op_mulK K) (pe_callB (call_lenK K) (by rfl) m_len PySem.boot_len (pa_cons (pe_ix (ix_seqK K) (pv 0) pe_int (fun _ _ => rfl)) pa_nil)) (pe_callB (call_lenK K) (by rfl) m_len PySem.boot_len (pa_cons (pe_ix (ix_seqK K) (pv 1) pe_int (fun _ _ => rfl)) pa_nil)))))
 (pss_one (ps_ret (pe_callB (cr_allK K rfl) (by rfl) m_all (by decide +kernel) (pa_cons (pe_lc (own := [("_law_k", 3)]) (by rfl) sc__law_alike.nd (pi_range1 (by rfl) m_range (pa_cons (pv 2) pa_nil)) (blkOk_by (own := [("_law_k", 3)]) (N := N__law_alike) (sc := defScope s__law_alike) (by decide +kernel)) (fun _ _ _ _ _ => (pg_name (i := 3) sc__law_alike.nd rfl (.inl rfl))) (fun _ _ _ _ _ => pts_nil) (fun _ _ _ _ _ => (pe_cmpR (op_eqK K hr.units) (pe_call G__law_letter (hr.mono (by decide)) (by rfl) g__law_letter F__law_letter.kp b__law_letter .nil pass0 (pa_cons (pv 0) (pa_cons (pv 3) pa_nil))) (pe_call G__law_letter (hr.mono (by decide)) (by rfl) g__law_letter F__law_letter.kp b__law_letter .nil pass0 (pa_cons (pv 1) (pa_cons (pv 3) pa_nil))) (nomark _)))) pa_nil))))), ?_⟩)
  obtain ⟨B, ⟨⟨b, r⟩, b', r'⟩, o, hv, ⟨⟨hr, h1, h2⟩, hr', h3, h4⟩, q⟩ := h
  dsimp only at hv hr h1 h2 hr' h3 h4 q
  have S := SD.start (N := N__law_alike) o hv
  generalize eM : max b.length b'.length + r.length * r'.length = M
  have mm : r.length * r'.length ≤ 500 * 500 := Nat.mul_le_mul h2 h4
  refine sq_set (R := Ex) (p := im K B (.int (M : Nat))) S ((ev_add (ev_max2 (ev_lenI (ev_ixT (ev_var (i := 0) rfl) ev_int rfl)) (ev_lenI (ev_ixT (ev_var (i := 1) rfl) ev_int rfl))) (ev_mul (ev_lenI (ev_ixT (ev_var (i := 0) rfl) ev_int rfl)) (ev_lenI (ev_ixT (ev_var (i := 1) rfl) ev_int rfl)) (.inl ⟨by omega, by omega⟩))).is ?_) fun s1 H1 r1 S1 => ?_
  · rw [← eM, Int.natCast_add, Int.natCast_mul]
    congr 3
    by_cases z : (b'.length : Int) > b.length
    · rw [if_pos z]; omega
    · rw [if_neg z]; omega
  refine st_ret (R := Ex) S1 (ev_all (K := K) (bs := (List.range M).map fun i => decide (sq b r i = sq b' r' i)) ((ev_lcMap (K := K) (fun i => .bool (decide (sq b r i = sq b' r' i))) (src_range1 (K := K) (n := (M : Nat)) (ev_var (i := 2) rfl) (by omega) (by omega)) (by rw [Int.toNat_natCast]; exact Nat.le_trans (show M ≤ 300000 by omega) (by decide)) (fun i _ => rfl) fun i Hc hi rc => ev_eqI (ev_call (b, r, (i : Int)) (ea_cons (ev_var (i := 0) rfl) (ea_cons (ev_var (i := 3) rfl) ea_nil)) ⟨by show (0 : Int) ≤ i; omega, hr⟩) (ev_call (b', r', (i : Int)) (ea_cons (ev_var (i := 1) rfl) (ea_cons (ev_var (i := 3) rfl) ea_nil)) ⟨by show (0 : Int) ≤ i; omega, hr'⟩)).is (by rw [Int.toNat_natCast, List.map_map]; rfl))) fun v H2 r2 hv => q v H2 (r1.trans r2) ?_
  have e : ((List.range M).map fun i => decide (sq b r i = sq b' r' i)).all id = alikeB (b, r) (b', r') := by
    rw [Bool.eq_iff_iff, List.all_eq_true]
    show _ ↔ decide (told (sq b r) = told (sq b' r')) = true
    rw [decide_eq_true_iff, told_inj hr hr', ← alike_iff hr hr', eM]
    constructor
    · intro h i hi
      have := h _ (List.mem_map.mpr ⟨i, List.mem_range.mpr hi, rfl⟩)
      exact of_decide_eq_true this
    · intro h x hx
      obtain ⟨i, hi, rfl⟩ := List.mem_map.mp hx
      exact decide_eq_true (h i (List.mem_range.mp hi))
  rw [← e]; exact hv
theorem ok_near {f : Addr} {fd : FuncData} (F : FnP K "_law_near" s__law_near f fd) {f__law_of : Addr} {fd__law_of : FuncData} (F__law_of : FnP K "_law_of" s__law_of f__law_of fd__law_of) (b__law_of : Binds K fd__law_of ["_law_hand_here", "_law_some"] []) (g__law_of : mg "_law_of" = some (.ref f__law_of)) {f__law_pick : Addr} {fd__law_pick : FuncData} (F__law_pick : FnP K "_law_pick" s__law_pick f__law_pick fd__law_pick) (b__law_pick : Binds K fd__law_pick ["_law_hand_here", "_law_many"] []) (g__law_pick : mg "_law_pick" = some (.ref f__law_pick)) (m_len : mg "len" = none) (m_int : mg "int" = none) : FnOk P w K mg base CX0 3 f fd ["_law_hand_here", "_law_words", "_law_letters"] (spNear K) := by
  have G__law_pick : FnOk P w K mg base CX0 1 _ _ ["_law_hand_here", "_law_many"] spPick := ok_pick F__law_pick
  have G__law_of : FnOk P w K mg base CX0 2 _ _ _ (spOf K) := ok_of F__law_of F__law_pick b__law_pick g__law_pick m_len
  refine F.ok sc__law_near (fun vs H Q E h => handSp.len (n := 2) (fun _ => rfl) h) (fun cdv A outer s H vs Q E hr h => ⟨_, PSs.nox (pss_cons (ps_asg (pe_call G__law_of (hr.mono (by decide)) (by rfl) g__law_of F__law_of.kp b__law_of .nil pass0 (pa_cons (pv 0) (pa_cons (pv 1) pa_nil))) (pg_tup rfl (pgs_cons (pg_name (i := 3) sc__law_near.nd rfl (.inl rfl)) (pgs_cons (pg_name (i := 4) sc__law_near.nd rfl (.inl rfl)) pgs_nil))))
 (pss_cons (ps_if (pt_cmpR (op_eqK K hr.units) (pe_call G__law_pick (hr.mono (by decide)) (by rfl) g__law_pick F__law_pick.kp b__law_pick .nil pass0 (pa_cons (pv 0) (pa_cons pe_int pa_nil))) pe_int (nomark _))
 (pss_one (ps_ret (pe_tup (pa_cons (pe_op (op_addK K) (pv 3) (pe_slice (sl_seqK K) (pv 4) po_none (po_some pe_int))) (pa_cons (pe_op (op_mulK K) (pe_op (op_addK K) (pe_slice (sl_seqK K) (pv 4) (po_some pe_int) po_none) (pe_slice (sl_seqK K) (pv 4) po_none (po_some pe_int))) (pe_op (op_addK K) pe_int (pe_op (op_mulK K) (pe_call G__law_pick (hr.mono (by decide)) (by rfl) g__law_pick F__law_pick.kp b__law_pick .nil pass0 (pa_cons (pv 0) (pa_cons pe_int pa_nil))) (pe_callTy call_int1 (by rfl) m_int (by decide +kernel) (pa_cons (pe_cmpR op_lt (pe_callB (call_lenK K) (by rfl) m_len PySem.boot_len (pa_cons (pv 4) pa_nil)) pe_int (nomark _)) pa_nil))))) pa_nil)))))
 pss_nil)
 (pss_cons (ps_set (i := 5) sc__law_near.nd rfl (.inl rfl) (pe_call G__law_pick (hr.mono (by decide)) (by rfl) g__law_pick F__law_pick.kp b__law_pick .nil pass0 (pa_cons (pv 0) (pa_cons (pe_callB (call_lenK K) (by rfl) m_len PySem.boot_len (pa_cons (pv 4) pa_nil)) pa_nil))))
 (pss_one (ps_ret (pe_tup (pa_cons (pv 3) (pa_cons (pe_op (op_addK K) (pe_op (op_addK K) (pe_slice (sl_seqK K) (pv 4) po_none (po_some (pv 5))) (pe_tup (pa_cons (pe_op op_modN (pe_op (op_addK K) (pe_ix (ix_seqK K) (pv 4) (pv 5) (fun _ _ => rfl)) pe_int) (pv 2)) pa_nil))) (pe_slice (sl_seqK K) (pv 4) (po_some (pe_op (op_addK K) (pv 5) pe_int)) po_none)) pa_nil)))))))), ?_⟩)
  obtain ⟨B, h, l, ⟨ws, L, m⟩, us, hs, o, hk, rfl, hv, ⟨hne, hwl, hL, hL2, hm, hg⟩, q⟩ := h
  dsimp only at hv hne hwl hL hL2 hm hg q
  have wl : 1 ≤ ws.length := List.length_pos_iff.mpr hne
  have S := SD.startH (N := N__law_near) (h := h) o hv
  refine sq_unpack2x (R := Rh h l) (C := fun w => w ∈ ws) (f := fun w => tI w.1) (g := fun w => tI w.2) S ((ev_of (K := K) hk (ev_var (i := 0) rfl) (ev_var (i := 1) rfl) (by rw [List.length_map]; exact wl) (by rw [List.length_map]; omega)).conv fun v Hd _ ⟨d, hd, q⟩ => by
    obtain ⟨w, hw, rfl⟩ := List.mem_map.mp hd
    exact ⟨w, hw, q⟩) fun ⟨b, r⟩ s1 H1 hw r1 S1 => ?_
  have g := hg _ hw
  have g1 := g.l1; have g2 := g.l2; have g3 := g.ne; have a1 := g.a1; have a2 := g.a2
  dsimp only at g1 g2 g3 a1 a2 S1
  have rp : 1 ≤ r.length := List.length_pos_iff.mpr g3
  have hk := r1.ok hk
  have t1 : (r.take 1).length = 1 := by rw [List.length_take]; omega
  have t2 : (r.drop 1 ++ r.take 1).length = r.length := by rw [List.length_append, List.length_drop, t1]; omega
  refine sq_ifx (R := Rh h l) S1 (etx_test (ev_eqN (K := K) (ev_pickI (K := K) hk (ev_var (i := 0) rfl) ev_int (by decide) (by decide)) ev_int)) (fun _ H2 r2 S2 => ?_) fun _ H2 r2 S2 => ?_
  · have hk := r2.ok hk
    refine st_ret (R := Rh h l) S2 (ev_tup2x (K := K) (C := fun k : Int => 1 ≤ k ∧ k ≤ 2 ∧ (12 ≤ r.length → k = 1)) (f := fun k => tI (List.replicate k.toNat (r.drop 1 ++ r.take 1)).flatten)
      (ev_catI (ns := b) (ms := r.take 1) (ev_var (i := 3) rfl) (ev_slI (ev_var (i := 4) rfl) eo_none (eo_some (K := K) ev_int) (cut_upto (n := 1))) (by omega))
      (ev_op (ev_catI (ev_slI (ev_var (i := 4) rfl) (eo_some (K := K) ev_int) eo_none (cut_from (n := 1))) (ev_slI (ev_var (i := 4) rfl) eo_none (eo_some (K := K) ev_int) (cut_upto (n := 1))) (by rw [← List.length_append, t2]; omega))
        (ev_addN (K := K) (ev_intN (K := K) ev_int) (ev_mulN (K := K) (ev_pickI (K := K) hk (ev_var (i := 0) rfl) ev_int (by decide) (by decide)) (ev_intB (K := K) (ev_lt (ev_lenI (ev_var (i := 4) rfl)) ev_int)) fun i c => ⟨by omega, by omega⟩)) fun x y Hc _ _ hx ⟨k, ⟨i, j, e, ⟨i2, c, e3⟩, e2⟩, hy⟩ Q qq => ?_)) fun v H3 r3 ⟨k, ⟨k1, k2, k3⟩, hv⟩ => ?_
    · have kk : 1 ≤ k ∧ k ≤ 2 ∧ (12 ≤ r.length → k = 1) := by
        by_cases z : (r.length : Int) < 12
        · rw [decide_eq_true z] at e3; simp only [if_true] at e3; omega
        · rw [decide_eq_false z] at e3; simp only [Bool.false_eq_true, if_false] at e3; omega
      exact rv_rep hx hy (by omega) (by omega) (by rw [List.length_map, t2]; omega) Q fun v H5 e5 hv => qq v H5 e5 ⟨k, kk, im_rep hv⟩
    · have kl : (List.replicate k.toNat (r.drop 1 ++ r.take 1)).flatten.length = k.toNat * r.length := by rw [rep_len, t2]
      have kk : k.toNat * r.length ≤ 22 ∧ 1 ≤ k.toNat * r.length := by
        have : k.toNat = 1 ∨ k.toNat = 2 := by omega
        rcases this with e | e
        · rw [e]; omega
        · have : ¬ 12 ≤ r.length := fun z => by have := k3 z; omega
          rw [e]; omega
      refine q (b ++ r.take 1, (List.replicate k.toNat (r.drop 1 ++ r.take 1)).flatten) v H3 ⟨fun e => ?_, ?_, ?_, a1.append (a2.take 1), ((a2.drop 1).append (a2.take 1)).rep _⟩ (Rok.tr B (Rok.tr B r1 r2) r3) hv
      · dsimp only at e
        rw [e] at kl
        simp at kl
        omega
      · show (b ++ r.take 1).length ≤ _
        rw [List.length_append, t1]; omega
      · show (List.replicate k.toNat _).flatten.length ≤ _
        rw [kl]; exact kk.1
  · have hk := r2.ok hk
    refine sq_setx (R := Rh h l) (C := fun n : Nat => n < r.length) (q := fun n => im K B (.int (n : Nat))) S2 ((ev_pickI (K := K) (m := (r.length : Nat)) hk (ev_var (i := 0) rfl) (ev_lenI (ev_var (i := 4) rfl)) (by omega) (by omega)).conv fun v Hc _ ⟨n, c, e⟩ => ⟨n.toNat, by omega, by show v = _; rw [e, Int.toNat_of_nonneg c.1]⟩) fun n s3 H3 hn r3 S3 => ?_
    generalize ex : (r.getD n 0 + 1) % (L : Int) = x
    have hx : 0 ≤ x ∧ x < L := by rw [← ex]; exact ⟨Int.emod_nonneg _ (by omega), Int.emod_lt_of_pos _ (by omega)⟩
    have l4 : (r.take n ++ [x] ++ r.drop (n + 1)).length = r.length := by
      rw [List.length_append, List.length_append, List.length_take, List.length_drop]; simp; omega
    refine st_ret (R := Rh h l) S3 (ev_tup (ds := [tI b, tI (r.take n ++ [x] ++ r.drop (n + 1))]) (ea_cons (ev_var (i := 3) rfl) (ea_cons (ev_catI (ev_catI (ev_slI (ev_var (i := 4) rfl) eo_none (eo_some (K := K) (ev_var (i := 5) rfl)) cut_upto) (ms := [x]) (ev_tup (ds := [.int x]) (ea_cons ((ev_mod (ev_add (ev_ixT (ev_var (i := 4) rfl) (ev_var (i := 5) rfl) (atI_ints (by omega) (by omega))) ev_int) (ev_var (i := 2) rfl) (by omega)).is (by rw [Int.fmod_eq_emod_of_nonneg _ (by omega), Int.toNat_natCast, ← ex])) ea_nil) (show 1 ≤ sizeLine by decide)) (by rw [List.length_take]; simp; omega)) (ev_slI (ev_var (i := 4) rfl) (eo_some (K := K) ((ev_add (ev_var (i := 5) rfl) ev_int).is (q := im K B (.int ((n + 1 : Nat) : Int))) (by rw [Int.natCast_add]; rfl))) eo_none cut_from) (by rw [List.length_append, List.length_take, List.length_drop]; simp; omega)) ea_nil)) (show 2 ≤ sizeLine by decide)) fun v H4 r4 hv => q (b, r.take n ++ [x] ++ r.drop (n + 1)) v H4 ⟨fun e => ?_, ?_, ?_, a1, ?_⟩ (Rok.tr B (Rok.tr B r1 r2) (Rok.tr B r3 r4)) hv
    · dsimp only at e
      rw [e] at l4
      simp at l4
      omega
    · show b.length ≤ _
      omega
    · show (r.take n ++ [x] ++ r.drop (n + 1)).length ≤ _
      rw [l4]; exact g2
    · exact ((a2.take n).append fun y hy => by rw [List.mem_singleton] at hy; rw [hy]; exact hx).append (a2.drop (n + 1))
end
def mx7 (L : Nat) : Nat := if L = 1 then 9 else if L = 2 then 7 else 5
theorem mx7_ok : ∀ L, L < 4 → ∀ n, n < 10 → 1 ≤ L → n < mx7 L → EL.cnt L n ≤ 2000 := by decide
section
variable {P : Program} {w : World} {K : PySem.W.Frag} {mg : Str → Option Value} {base : Heap}
theorem ok_law {f : Addr} {fd : FuncData} (F : FnP K "law" s_law f fd) {f__law_hand : Addr} {fd__law_hand : FuncData} (F__law_hand : FnP K "_law_hand" s__law_hand f__law_hand fd__law_hand) (b__law_hand : Binds K fd__law_hand ["_law_script"] []) (g__law_hand : mg "_law_hand" = some (.ref f__law_hand)) {f__law_pick : Addr} {fd__law_pick : FuncData} (F__law_pick : FnP K "_law_pick" s__law_pick f__law_pick fd__law_pick) (b__law_pick : Binds K fd__law_pick ["_law_hand_here", "_law_many"] []) (g__law_pick : mg "_law_pick" = some (.ref f__law_pick)) {f__law_of : Addr} {fd__law_of : FuncData} (F__law_of : FnP K "_law_of" s__law_of f__law_of fd__law_of) (b__law_of : Binds K fd__law_of ["_law_hand_here", "_law_some"] []) (g__law_of : mg "_law_of" = some (.ref f__law_of)) {f__law_row : Addr} {fd__law_row : FuncData} (F__law_row : FnP K "_law_row" s__law_row f__law_row fd__law_row) (b__law_row : Binds K fd__law_row ["_law_hand_here", "_law_letters", "_law_many"] []) (g__law_row : mg "_law_row" = some (.ref f__law_row)) {f__law_word : Addr} {fd__law_word : FuncData} (F__law_word : FnP K "_law_word" s__law_word f__law_word fd__law_word) (b__law_word : Binds K fd__law_word ["_law_hand_here", "_law_letters"] []) (g__law_word : mg "_law_word" = some (.ref f__law_word)) {f__law_letter : Addr} {fd__law_letter : FuncData} (F__law_letter : FnP K "_law_letter" s__law_letter f__law_letter fd__law_letter) (b__law_letter : Binds K fd__law_letter ["_law_word_here", "_law_k"] []) (g__law_letter : mg "_law_letter" = some (.ref f__law_letter)) {f__law_alike : Addr} {fd__law_alike : FuncData} (F__law_alike : FnP K "_law_alike" s__law_alike f__law_alike fd__law_alike) (b__law_alike : Binds K fd__law_alike ["_law_one", "_law_other"] []) (g__law_alike : mg "_law_alike" = some (.ref f__law_alike)) {f__law_near : Addr} {fd__law_near : FuncData} (F__law_near : FnP K "_law_near" s__law_near f__law_near fd__law_near) (b__law_near : Binds K fd__law_near ["_law_hand_here", "_law_words", "_law_letters"] []) (g__law_near : mg "_law_near" = some (.ref f__law_near)) {f_letter_at : Addr} {fd_letter_at : FuncData} (F_letter_at : FnP K "letter_at" s_letter_at f_letter_at fd_letter_at) (b_letter_at : Binds K fd_letter_at ["word", "k"] []) (g_letter_at : mg "letter_at" = some (.ref f_letter_at)) {f_from_on : Addr} {fd_from_on : FuncData} (F_from_on : FnP K "from_on" s_from_on f_from_on fd_from_on) (b_from_on : Binds K fd_from_on ["word", "k"] []) (g_from_on : mg "from_on" = some (.ref f_from_on)) {f_led_by : Addr} {fd_led_by : FuncData} (F_led_by : FnP K "led_by" s_led_by f_led_by fd_led_by) (b_led_by : Binds K fd_led_by ["some", "word"] []) (g_led_by : mg "led_by" = some (.ref f_led_by)) {f_order_of : Addr} {fd_order_of : FuncData} (F_order_of : FnP K "order_of" s_order_of f_order_of fd_order_of) (b_order_of : Binds K fd_order_of ["word"] []) (g_order_of : mg "order_of" = some (.ref f_order_of)) {f_words_upto : Addr} {fd_words_upto : FuncData} (F_words_upto : FnP K "words_upto" s_words_upto f_words_upto fd_words_upto) (b_words_upto : Binds K fd_words_upto ["letters", "size"] []) (g_words_upto : mg "words_upto" = some (.ref f_words_upto)) {f_letter_rows : Addr} {fd_letter_rows : FuncData} (F_letter_rows : FnP K "letter_rows" s_letter_rows f_letter_rows fd_letter_rows) (b_letter_rows : Binds K fd_letter_rows ["letters", "size"] []) (g_letter_rows : mg "letter_rows" = some (.ref f_letter_rows)) {f_told_form : Addr} {fd_told_form : FuncData} (F_told_form : FnP K "told_form" s_told_form f_told_form fd_told_form) (b_told_form : Binds K fd_told_form ["word"] []) (g_told_form : mg "told_form" = some (.ref f_told_form)) {f_shortest_round : Addr} {fd_shortest_round : FuncData} (F_shortest_round : FnP K "shortest_round" s_shortest_round f_shortest_round fd_shortest_round) (b_shortest_round : Binds K fd_shortest_round ["again"] []) (g_shortest_round : mg "shortest_round" = some (.ref f_shortest_round)) (m_len : mg "len" = none) (m_range : mg "range" = none) (m_tuple : mg "tuple" = none) (m_list : mg "list" = none) (m_any : mg "any" = none) (m_all : mg "all" = none) (m_max : mg "max" = none) (m_int : mg "int" = none) : FnG P w K mg base CX0 4 f fd ["_law_script"] (spLaw K) := by
  have G__law_hand : FnOk P w K mg base CX0 1 _ _ ["_law_script"] (spHand K) := ok_hand F__law_hand
  have G__law_pick : FnOk P w K mg base CX0 1 _ _ ["_law_hand_here", "_law_many"] spPick := ok_pick F__law_pick
  have G__law_row : FnOk P w K mg base CX0 2 _ _ _ (spRow K) := ok_row F__law_row F__law_pick b__law_pick g__law_pick m_tuple m_range
  have G__law_word : FnOk P w K mg base CX0 3 _ _ _ (spWord K) := ok_word F__law_word F__law_pick b__law_pick g__law_pick F__law_row b__law_row g__law_row m_tuple m_range m_len
  have G__law_alike : FnOk P w K mg base CX0 2 _ _ _ (spAlike K) := ok_alike F__law_alike F__law_letter b__law_letter g__law_letter m_len m_range m_all m_max
  have G__law_near : FnOk P w K mg base CX0 3 _ _ _ (spNear K) := ok_near F__law_near F__law_of b__law_of g__law_of F__law_pick b__law_pick g__law_pick m_len m_int
  have G_letter_at : FnOk P w K mg base CX0 1 _ _ _ (spLetterAt K) := ok_letter_at F_letter_at m_len
  have G_told_form : FnOk P w K mg base CX0 2 _ _ _ (spTold K) := ok_told F_told_form F_shortest_round b_shortest_round g_shortest_round m_len m_range m_tuple
  have G_from_on : FnOk P w K mg base CX0 3 _ _ _ (spFrom K) := ok_from F_from_on F_told_form b_told_form g_told_form m_len G_told_form
  have G_led_by : FnOk P w K mg base CX0 3 _ _ _ (spLed K) := ok_led F_led_by F_told_form b_told_form g_told_form G_told_form
  have G_order_of : FnOk P w K mg base CX0 3 _ _ _ (spOrder K) := ok_order F_order_of F_told_form b_told_form g_told_form m_len G_told_form
  have G_words_upto : FnOk P w K mg base CX0 3 _ _ _ (spUpto K) := ok_upto F_words_upto F_letter_rows b_letter_rows g_letter_rows F_told_form b_told_form g_told_form F_shortest_round b_shortest_round g_shortest_round m_len m_range m_tuple
  refine okG F sc_law (fun vs H Q E h => ?_) (fun cdv A outer s H vs Q E gd hr h => ⟨_, PSs.nox (pss_cons (ps_set (i := 1) sc_law.nd rfl (.inl rfl) (pe_call G__law_hand (hr.mono (by decide)) (by rfl) g__law_hand F__law_hand.kp b__law_hand .nil pass0 (pa_cons (pv 0) pa_nil)))
 (pss_cons (ps_par (i := 2) (j := 3) (by rfl) sc_law.nd rfl rfl (by decide) rfl rfl (pa_cons (pe_op (op_addK K) pe_int (pe_call G__law_pick (hr.mono (by decide)) (by rfl) g__law_pick F__law_pick.kp b__law_pick .nil pass0 (pa_cons (pv 1) (pa_cons pe_int pa_nil)))) (pa_cons (pe_lst pa_nil) pa_nil)) (by rfl))
 (pss_cons (ps_for PassesOwn.never rfl (pi_range1 (by rfl) m_range (pa_cons pe_int pa_nil)) (pg_name (i := 4) sc_law.nd rfl (.inl rfl))
 (pss_one (ps_if (PW.pt (pw_and (pt_cmpR (op_neK K hr.units) (pv 3) (pe_lst pa_nil) (nomark _)) (pw_and1 (pt_cmpR (op_eqK K hr.units) (pe_call G__law_pick (hr.mono (by decide)) (by rfl) g__law_pick F__law_pick.kp b__law_pick .nil pass0 (pa_cons (pv 1) (pa_cons pe_int pa_nil))) pe_int (nomark _)))))
 (pss_one (ps_expr (pe_bm PySem.F.plainAttrs_list PySem.F.slot_list_append PySem.F.type_list_append mt_append (pv 3) (pa_cons (pe_call G__law_near (hr.mono (by decide)) (by rfl) g__law_near F__law_near.kp b__law_near .nil pass0 (pa_cons (pv 1) (pa_cons (pv 3) (pa_cons (pv 2) pa_nil)))) pa_nil))))
 (pss_one (ps_expr (pe_bm PySem.F.plainAttrs_list PySem.F.slot_list_append PySem.F.type_list_append mt_append (pv 3) (pa_cons (pe_call G__law_word (hr.mono (by decide)) (by rfl) g__law_word F__law_word.kp b__law_word .nil pass0 (pa_cons (pv 1) (pa_cons (pv 2) pa_nil))) pa_nil)))))))
 (pss_cons (ps_for PassesOwn.never rfl (pi_seqK K (pv 3)) (pg_name (i := 5) sc_law.nd rfl (.inr rfl))
 (pss_cons (ps_asg (pe_tup (pa_cons (pe_call G_told_form (hr.mono (by decide)) (by rfl) g_told_form F_told_form.kp b_told_form .nil pass0 (pa_cons (pv 5) pa_nil)) (pa_cons (pe_call G__law_pick (hr.mono (by decide)) (by rfl) g__law_pick F__law_pick.kp b__law_pick .nil pass0 (pa_cons (pv 1) (pa_cons pe_int pa_nil))) pa_nil))) (pg_tup rfl (pgs_cons (pg_name (i := 6) sc_law.nd rfl (.inr rfl)) (pgs_cons (pg_name (i := 7) sc_law.nd rfl (.inr rfl)) pgs_nil))))
 (pss_cons (ps_set (i := 8) sc_law.nd rfl (.inl rfl) (pe_call G__law_row (hr.mono (by decide)) (by rfl) g__law_row F__law_row.kp b__law_row .nil pass0 (pa_cons (pv 1) (pa_cons (pv 2) (pa_cons (pe_call G__law_pick (hr.mono (by decide)) (by rfl) g__law_pick F__law_pick.kp b__law_pick .nil pass0 (pa_cons (pv 1) (pa_cons pe_int pa_nil))) pa_nil)))))
 (pss_cons (ps_if (PW.pt (pw_or (pt_not (pt_val (pe_call G__law_alike (hr.mono (by decide)) (by rfl) g__law_alike F__law_alike.kp b__law_alike .nil pass0 (pa_cons (pv 6) (pa_cons (pv 5) pa_nil))))) (pw_or1 (pt_not (pt_val (pe_call G__law_alike (hr.mono (by decide)) (by rfl) g__law_alike F__law_alike.kp b__law_alike .nil pass0 (pa_cons (pe_call G_led_by (hr.mono (by decide)) (by rfl) g_led_by F_led_by.kp b_led_by .nil pass0 (pa_cons (pv 8) (pa_cons (pv 5) pa_nil))) (pa_cons (pe_tup (pa_cons (pe_op (op_addK K) (pv 8) (pe_ix (ix_seqK K) (pv 5) pe_int (fun _ _ => rfl))) (pa_cons (pe_ix (ix_seqK K) (pv 5) pe_int (fun _ _ => rfl)) pa_nil))) pa_nil))))))))
 (pss_one (ps_ret pe_bl))
 pss_nil)
 (pss_cons (ps_if (pt_val (pe_callB (cr_anyK K rfl) (by rfl) m_any (by decide +kernel) (pa_cons (pe_lc (own := [("_law_j", 14)]) (by rfl) sc_law.nd (pi_range1 (by rfl) m_range (pa_cons pe_int pa_nil)) (blkOk_by (own := [("_law_j", 14)]) (N := N_law) (sc := defScope s_law) (by decide +kernel)) (fun _ _ _ _ _ => (pg_name (i := 14) sc_law.nd rfl (.inl rfl))) (fun _ _ _ _ _ => pts_nil) (fun _ _ _ _ _ => (pe_cmpR (op_neK K hr.units) (pe_call G_letter_at (hr.mono (by decide)) (by rfl) g_letter_at F_letter_at.kp b_letter_at .nil pass0 (pa_cons (pe_call G_from_on (hr.mono (by decide)) (by rfl) g_from_on F_from_on.kp b_from_on .nil pass0 (pa_cons (pv 5) (pa_cons (pv 7) pa_nil))) (pa_cons (pv 14) pa_nil))) (pe_call G_letter_at (hr.mono (by decide)) (by rfl) g_letter_at F_letter_at.kp b_letter_at .nil pass0 (pa_cons (pv 5) (pa_cons (pe_op (op_addK K) (pv 7) (pv 14)) pa_nil))) (nomark _)))) pa_nil)))
 (pss_one (ps_ret pe_bl))
 pss_nil)
 (pss_cons (ps_for PassesOwn.never rfl (pi_seqK K (pv 3)) (pg_name (i := 9) sc_law.nd rfl (.inl rfl))
 (pss_cons (ps_set (i := 10) sc_law.nd rfl (.inl rfl) (pe_call G__law_alike (hr.mono (by decide)) (by rfl) g__law_alike F__law_alike.kp b__law_alike .nil pass0 (pa_cons (pv 5) (pa_cons (pv 9) pa_nil))))
 (pss_one (ps_if (PW.pt (pw_or (pt_cmpR (op_neK K hr.units) (pe_cmpR (op_eqK K hr.units) (pv 6) (pe_call G_told_form (hr.mono (by decide)) (by rfl) g_told_form F_told_form.kp b_told_form .nil pass0 (pa_cons (pv 9) pa_nil)) (nomark _)) (pv 10) (nomark _)) (pw_or1 (pt_cmpR (op_neK K hr.units) (pe_cmpR (op_eqK K hr.units) (pe_call G_order_of (hr.mono (by decide)) (by rfl) g_order_of F_order_of.kp b_order_of .nil pass0 (pa_cons (pv 5) pa_nil)) (pe_call G_order_of (hr.mono (by decide)) (by rfl) g_order_of F_order_of.kp b_order_of .nil pass0 (pa_cons (pv 9) pa_nil)) (nomark _)) (pv 10) (nomark _)))))
 (pss_one (ps_ret pe_bl))
 pss_nil))))
 (pss_cons (ps_set (i := 11) sc_law.nd rfl (.inl rfl) (pe_op (op_addK K) (pe_callB (call_lenK K) (by rfl) m_len PySem.boot_len (pa_cons (pe_ix (ix_seqK K) (pv 6) pe_int (fun _ _ => rfl)) pa_nil)) (pe_callB (call_lenK K) (by rfl) m_len PySem.boot_len (pa_cons (pe_ix (ix_seqK K) (pv 6) pe_int (fun _ _ => rfl)) pa_nil))))
 (pss_one (ps_if (pt_cmpR (op_ltK K hr.units) (pv 11) (pe_ix (ix_seqK K) (pe_lst (pa_cons pe_int (pa_cons pe_int (pa_cons pe_int pa_nil)))) (pe_op op_sub (pv 2) pe_int) (fun _ _ => rfl)) (nomark _))
 (pss_cons (ps_set (i := 12) sc_law.nd rfl (.inl rfl) (pe_callTy (call_listK K) (by rfl) m_list (by decide +kernel) (pa_cons (pe_call G_words_upto (hr.mono (by decide)) (by rfl) g_words_upto F_words_upto.kp b_words_upto .nil pass0 (pa_cons (pv 2) (pa_cons (pv 11) pa_nil))) pa_nil)))
 (pss_cons (ps_setLc (i := 13) (own := [("_law_word_here", 15)]) (by rfl) sc_law.nd rfl rfl (sw_true rfl rfl rfl (by decide +kernel)) (pi_seqK K (pv 12)) (blkOk_by (own := [("_law_word_here", 15)]) (N := N_law) (sc := defScope s_law) (by decide +kernel)) (fun _ _ _ _ _ => (pg_name (i := 15) sc_law.nd rfl (.inl rfl))) (fun _ _ _ _ _ => (pts_one (pt_cmpR (op_ltK K hr.units) (pe_call G_order_of (hr.mono (by decide)) (by rfl) g_order_of F_order_of.kp b_order_of .nil pass0 (pa_cons (pv 15) pa_nil)) (pe_call G_order_of (hr.mono (by decide)) (by rfl) g_order_of F_order_of.kp b_order_of .nil pass0 (pa_cons (pv 6) pa_nil)) (nomark _)))) (fun _ _ _ _ _ => (pv 15)))
 (pss_one (ps_if (PW.pt (pw_or (pt_cmpR (op_notInDK K (rm66 hr)) (pv 6) (pv 12) (by rfl)) (pw_or1 (pt_cmpR (op_neK K hr.units) (pe_bm PySem.F.plainAttrs_list PySem.F.slot_list_index PySem.F.type_list_index (mt_indexDK K (rm66 hr)) (pv 12) (pa_cons (pv 6) pa_nil)) (pe_callB (call_lenK K) (by rfl) m_len PySem.boot_len (pa_cons (pv 13) pa_nil)) (nomark _)))))
 (pss_one (ps_ret pe_bl))
 pss_nil))))
 pss_nil)))))))))
 (pss_one (ps_ret pe_bl)))))), ?_⟩)
  · obtain ⟨a, ns, rfl, _⟩ := h
    rfl
  obtain ⟨a, ns, rfl, hS, hl, q⟩ := h
  refine sq_hand (n := 14) rfl hS hl fun h l σ H1 e1 hk S1 => ?_
  refine sq_par (R := Rh h l) (p := intP fun k => 1 ≤ k ∧ k ≤ 3) (q := ownX (hB h l)) S1 (ea_cons ((ev_addN (K := K) (ev_intN (K := K) ev_int) (ev_pickI (K := K) hk (ev_var rfl) ev_int (by decide) (by decide))).intm fun i ⟨i1, j1, e1, c1, e2⟩ => by omega) (ea_cons (ev_own K) ea_nil)) fun s2 H2 r2 S2 => ?_
  have hk := r2.ok hk
  obtain ⟨p, nb, hp, S3⟩ := S2.own 3 rfl
  obtain ⟨Li, l1, S4⟩ := S3.opnI (K := K) 2 rfl
  obtain ⟨L, rfl⟩ : ∃ n : Nat, Li = n := ⟨Li.toNat, by omega⟩
  have np : h ≠ p ∧ l ≠ p := ⟨fun e => nb (.inl e.symm), fun e => nb (.inr e.symm)⟩
  refine sq_forR (R := Ex) (K := K) S4 ev_int (by decide) (by decide) (fun i s Hc => ∃ ws : List (List Int × List Int), HandOk h l Hc ∧ ws.length = i ∧ (∀ w ∈ ws, Gn L i w) ∧ (∃ vs, Hc p = some (.lst vs) ∧ imAll K (hB h l) (ws.map wdp) vs Hc) ∧
    SD (hB h l) Hc s [none, some (isP (.ref h)), some (im K (hB h l) (.int (L : Nat))), some (isP (.ref p)), none, none, none, none, none, none, none, none, none, none, none, none]) (fun H0 r0 S0 => ⟨[], hk.ex r0, rfl, (fun w hw => nomatch hw), ⟨[], r0 _ _ hp, rfl⟩, S0.weak ⟨rfl, rfl, rfl, trivial⟩⟩)
    (fun i s Hc hi ⟨ws, hk, hlen, hg, ⟨vs, hp, hv⟩, S⟩ => ?_) (fun s Hc ⟨ws, hk, hlen, hg, ⟨vs, hp, hv⟩, S⟩ => ?_)
  · have hi : i < 8 := hi
    have S := (S.set (i := 4) (v := .int i) (p := isP (.int i)) rfl).weak (δ' := [none, some (isP (.ref h)), some (im K (hB h l) (.int (L : Nat))), some (isP (.ref p)), none, none, none, none, none, none, none, none, none, none, none, none]) ⟨rfl, rfl, rfl, trivial⟩
    have fin : ∀ {c : List Int × List Int} {v : V} {Hd : Hp} {us : List V} {s : L2.St}, Gn L (i + 1) c → HandOk h l Hd → SD (hB h l) (upd Hd p (.lst us)) s [none, some (isP (.ref h)), some (im K (hB h l) (.int (L : Nat))), some (isP (.ref p)), none, none, none, none, none, none, none, none, none, none, none, none] → imAll K (hB h l) (ws.map wdp ++ [wdp c]) us (upd Hd p (.lst us)) →
        ∃ ws : List (List Int × List Int), HandOk h l (upd Hd p (.lst us)) ∧ ws.length = i + 1 ∧ (∀ w ∈ ws, Gn L (i + 1) w) ∧ (∃ vs, (upd Hd p (.lst us)) p = some (.lst vs) ∧ imAll K (hB h l) (ws.map wdp) vs (upd Hd p (.lst us))) ∧ SD (hB h l) (upd Hd p (.lst us)) s [none, some (isP (.ref h)), some (im K (hB h l) (.int (L : Nat))), some (isP (.ref p)), none, none, none, none, none, none, none, none, none, none, none, none] := fun {c v Hd us s} gc hk S9 hv9 =>
      ⟨ws ++ [c], hk.upd np.1 np.2, by rw [List.length_append, hlen]; rfl, fun w hw => by
        rcases List.mem_append.mp hw with hw | hw
        · exact (hg w hw).up
        · rw [List.mem_singleton] at hw; rw [hw]; exact gc, ⟨_, upd_same, by rw [List.map_append]; exact hv9⟩, S9⟩
    have lsz : (ws.map wdp).length < sizeLine := Nat.lt_of_lt_of_le (show (ws.map wdp).length < 100 by rw [List.length_map]; omega) (by decide)
    refine st_ifx (R := Rh h l) S (etx_and (etx_of (et_test (ev_neE ((ev_var (i := 3) rfl).own nb hp hv) (shaped_wds ws)))) fun hc H1 r1 => etx_test (ev_eqN (K := K) (ev_pickI (K := K) (r1.ok hk) (ev_var (i := 1) rfl) ev_int (by decide) (by decide)) ev_int)) (fun hc H3 r3 S3 => ?_) (fun _ H3 r3 S3 => ?_)
    · have ne : ws ≠ [] := by
        rcases hc with ⟨z, _⟩ | ⟨z, _⟩
        · cases z
        · intro e; rw [e] at z; cases z
      have hk := r3.ok hk
      have hp := r3.rb.keep _ _ nb hp
      have hv := imAll_st r3.rb _ _ hv
      exact st_pushH (h := h) (l := l) (K := K) (g := fun c : List Int × List Int => wd c.1 c.2) S3 ⟨ps_is, ps_im rfl, ps_is, trivial⟩ rfl nb hp hv (plain_wds ws) (fun a => plain_wd _ _) lsz (ev_handI (K := K) (ws, L, i) hk (ev_var (i := 1) rfl) (ea_cons ((ev_var (i := 3) rfl).own nb hp hv) (ea_cons (ev_var (i := 2) rfl) ea_nil)) ⟨ne, by show ws.length ≤ _; omega, by show 1 ≤ L; omega, by show L ≤ _; omega, by show i ≤ _; omega, hg⟩) fun c v H4 gc r4 S4 hv4 => fin (v := v) gc (r4.ok hk) S4 hv4
    · have hk := r3.ok hk
      have hp := r3.rb.keep _ _ nb hp
      have hv := imAll_st r3.rb _ _ hv
      exact st_pushH (h := h) (l := l) (K := K) (g := fun c : List Int × List Int => wd c.1 c.2) S3 ⟨ps_is, ps_im rfl, ps_is, trivial⟩ rfl nb hp hv (plain_wds ws) (fun a => plain_wd _ _) lsz (ev_handI (K := K) (L : Int) hk (ev_var (i := 1) rfl) (ea_cons (ev_var (i := 2) rfl) ea_nil) ⟨l1.1, by omega⟩) fun c v H4 ⟨g1, g2, g3, g4, g5⟩ r4 S4 hv4 => fin (v := v) ⟨g1, by omega, by omega, g4, g5⟩ (r4.ok hk) S4 hv4
  have hlen : ws.length = 8 := hlen
  have hg : ∀ w ∈ ws, Gn L 8 w := hg
  have S := S.up (q := im K (hB h l) (.list (ws.map wdp))) 3 rfl fun v e => ⟨p, vs, e, nb, sqL_of hp, hv⟩
  have pre : ∀ {x : List Int × List Int}, x ∈ ws → x.2 ≠ [] ∧ x.1.length ≤ 72 ∧ x.2.length ≤ 22 := fun {x} hx => ⟨(hg x hx).ne, by have := (hg x hx).l1; omega, (hg x hx).l2⟩
  refine sq_forN (R := Ex) (v := 5) S (src_map (K := K) wdp ([], []) (ev_var (i := 3) rfl)) (fun _ => [none, some (isP (.ref h)), some (im K (hB h l) (.int (L : Nat))), some (im K (hB h l) (.list (ws.map wdp))), none, none, none, none, none, none, none, none, none, none, none, none]) (fun _ _ Hc => HandOk h l Hc) (fun H0 r0 S0 => ⟨S0.weak ⟨rfl, rfl, rfl, trivial⟩, hk.ex r0⟩) (fun H0 r0 i s Hc hi rc hk S => ?_) (fun i H0 Ha Hb e hk => hk.ex e) (fun H0 r0 s Hc rc hk S => st_ret (R := Ex) S (ev_bool (K := K)) fun v H7 r7 hv => by rw [show v = .bl true from hv]; exact q _)
  have hx := getD_mem ([], []) hi
  generalize ws.getD i ([], []) = w at hx S
  obtain ⟨b, r⟩ := w
  have g := hg _ hx
  obtain ⟨g3, g1, g2⟩ := pre hx
  dsimp only at g1 g2 g3
  obtain ⟨t1, t2, t5⟩ := told_len (b := b) g3
  obtain ⟨t3, t4⟩ := told_mem (b := b) g3 (P := fun x => 0 ≤ x ∧ x < (L : Int)) g.a1 g.a2
  have tt := told_told (b := b) g3
  have st := sq_told (b := b) g3
  refine sq_tup2 (R := Rh h l) (K := K) (p := im K (hB h l) (wd (told (sq b r)).1 (told (sq b r)).2)) (q := exP (fun n : Nat => n < 30) fun n => im K (hB h l) (.int (n : Nat))) S (ea_cons (ev_call (b, r) (ea_cons (ev_var (i := 5) rfl) ea_nil) ⟨g3, by show r.length ≤ _; omega, by show b.length ≤ _; omega⟩) (ea_cons ((ev_pickI (K := K) hk (ev_var (i := 1) rfl) ev_int (by decide) (by decide)).conv fun v Hd _ ⟨n, c, e⟩ => ⟨n.toNat, by omega, by show v = _; rw [e, Int.toNat_of_nonneg c.1]⟩) ea_nil)) fun s2 H2 r2 S2 => ?_
  have hk := r2.ok hk
  obtain ⟨kk, hkk, S2⟩ := S2.opn 7 rfl
  refine sq_setx (R := Rh h l) (C := fun ns : List Int => ns.length ≤ 4 ∧ Ltr L ns) (q := fun ns => im K (hB h l) (tI ns)) S2 ((ev_hand (K := K) (args := fun a : Int × Int => [.int a.1, .int a.2]) (A := fun a => a.1 = L ∧ 0 ≤ a.2 ∧ a.2 < 4) hk (ev_var (i := 1) rfl) (ea_cons (ev_var (i := 2) rfl) (ea_cons (ev_pickI (K := K) hk (ev_var (i := 1) rfl) ev_int (by decide) (by decide)) ea_nil)) (fun us H1 ⟨v, r, e, hv, v2, r2, e2, ⟨n, c, hv2⟩, e3⟩ => ⟨(L, n), ⟨rfl, c.1, c.2⟩, v, r, e, hv, v2, r2, e2, hv2, e3⟩) fun a ⟨ha, hb, hc⟩ => by
      refine ⟨?_, ?_, hb, ?_⟩ <;> omega).conv fun v Hd _ ⟨ns, ⟨⟨a1, a2⟩, ⟨e1, c1, c2⟩, e2, lt⟩, hv⟩ => ⟨ns, ⟨by dsimp only at e1 c1 c2 e2; omega, by dsimp only at e1 lt; rw [e1] at lt; exact lt⟩, hv⟩) fun c s3 H3 ⟨hc1, lc⟩ r3 S3 => ?_
  have hk := r3.ok hk
  have cl : (c ++ b).length ≤ 100 := by rw [List.length_append]; omega
  obtain ⟨u1, u2, u5⟩ := told_len (b := c ++ b) g3
  refine sq_if (R := Ex) (b := false) S3 ((et_or (et_not (et_B (ev_call (told (sq b r), b, r) (ea_cons (ev_var (i := 6) rfl) (ea_cons (ev_var (i := 5) rfl) ea_nil)) ⟨⟨t5, by dsimp only; omega, by dsimp only; omega⟩, g3, by dsimp only; omega, by dsimp only; omega⟩))) fun _ => et_not (et_B (ev_call (told (sq (c ++ b) r), c ++ b, r) (ea_cons (ev_call (c, b, r) (ea_cons (ev_var (i := 8) rfl) (ea_cons (ev_var (i := 5) rfl) ea_nil)) ⟨g3, by show r.length ≤ 1000; omega, by show c.length + b.length ≤ 1000; omega⟩) (ea_cons (ev_tup (ds := [tI (c ++ b), tI r]) (ea_cons (ev_catI (ev_var (i := 8) rfl) (ev_ixT (ev_var (i := 5) rfl) ev_int rfl) (by omega)) (ea_cons (ev_ixT (ev_var (i := 5) rfl) ev_int rfl) ea_nil)) (show 2 ≤ sizeLine by decide)) ea_nil)) ⟨⟨u5, by dsimp only; omega, by dsimp only; omega⟩, g3, by dsimp only; omega, by dsimp only; omega⟩))).is (by
      unfold alikeB
      rw [decide_eq_true tt, decide_eq_true (told_told (b := c ++ b) g3)]; rfl)) (fun z => by cases z) fun _ H4 r4 S4 => ?_
  obtain ⟨v1, v2⟩ := told_shift (b := b) g3 kk
  refine sq_if (R := Ex) (b := false) S4 ((et_B (ev_any (K := K) (bs := (List.range 12).map fun _ => false) ((ev_lcMap (K := K) (fun j => .bool false) (src_range1 (K := K) (n := 12) ev_int (by decide) (by decide)) (by decide) (fun i _ => rfl) fun j Hc hj rc => (ev_neI (ev_call ((told (shift (sq b r) kk)).1, (told (shift (sq b r) kk)).2, (j : Int)) (ea_cons (ev_call (b, r, kk) (ea_cons (ev_var (i := 5) rfl) (ea_cons (ev_var (i := 7) rfl) ea_nil)) ⟨g3, by show r.length ≤ 1000; omega, by show b.length ≤ 1000; omega⟩) (ea_cons (ev_var (i := 14) rfl) ea_nil)) ⟨by show (0 : Int) ≤ j; omega, v2⟩) (ev_call (b, r, ((kk + j : Nat) : Int)) (ea_cons (ev_var (i := 5) rfl) (ea_cons ((ev_add (ev_var (i := 7) rfl) (ev_var (i := 14) rfl)).is (by rw [Int.natCast_add])) ea_nil)) ⟨Int.natCast_nonneg _, g3⟩)).is (by
      have := congrFun v1 j
      have e : letterAt (told (shift (sq b r) kk)).1 (told (shift (sq b r) kk)).2 (j : Int) = letterAt b r ((kk + j : Nat) : Int) := by
        refine this.trans ?_
        show letterAt b r ((j + kk : Nat) : Int) = _
        rw [Nat.add_comm]
      show im K (hB h l) (.bool (!decide (letterAt (told (shift (sq b r) kk)).1 (told (shift (sq b r) kk)).2 (j : Int) = letterAt b r ((kk + j : Nat) : Int)))) = _
      rw [decide_eq_true e]; rfl)).is (by rw [List.map_map]; rfl)))).is (by decide)) (fun z => by cases z) fun _ H5 r5 S5 => ?_
  have hk := (hk.ex r4).ex r5
  refine sq_forN (R := Ex) (v := 9) S5 (src_map (K := K) wdp ([], []) (ev_var (i := 3) rfl)) (fun _ => [none, some (isP (.ref h)), some (im K (hB h l) (.int (L : Nat))), some (im K (hB h l) (.list (ws.map wdp))), none, some (im K (hB h l) (wd b r)), some (im K (hB h l) (wd (told (sq b r)).1 (told (sq b r)).2)), none, none, none, none, none, none, none, none, none]) (fun _ _ Hc => HandOk h l Hc) (fun H0 r0 S0 => ⟨S0.weak ⟨rfl, rfl, rfl, rfl, rfl, trivial⟩, hk.ex r0⟩) (fun H6 r6 j s Hd hj rd hk S => ?_) (fun i H0 Ha Hb e hk => hk.ex e) (fun H6 r6 s Hd rd hk S => ?_)
  · have hy := getD_mem ([], []) hj
    generalize ws.getD j ([], []) = w2 at hy S
    obtain ⟨b', r'⟩ := w2
    obtain ⟨f3, f1, f2⟩ := pre hy
    dsimp only at f1 f2 f3
    refine sq_set (R := Ex) S (ev_call ((b, r), b', r') (ea_cons (ev_var (i := 5) rfl) (ea_cons (ev_var (i := 9) rfl) ea_nil)) ⟨⟨g3, by dsimp only; omega, by dsimp only; omega⟩, f3, by dsimp only; omega, by dsimp only; omega⟩) fun s7 H7 r7 S7 => ?_
    refine st_if (R := Ex) (b := false) S7 ((et_or (et_test (ev_ne (ev_eq (ev_var (i := 6) rfl) (ev_call (b', r') (ea_cons (ev_var (i := 9) rfl) ea_nil) ⟨f3, by show r'.length ≤ _; omega, by show b'.length ≤ _; omega⟩) (shaped_wd _ _) (shaped_wd _ _)) (ev_var (i := 10) rfl) (shaped_bool _) (shaped_bool _))) fun _ => et_test (ev_ne (ev_eq (ev_call (b, r) (ea_cons (ev_var (i := 5) rfl) ea_nil) ⟨g3, by show r.length ≤ _; omega, by show b.length ≤ _; omega⟩) (ev_call (b', r') (ea_cons (ev_var (i := 9) rfl) ea_nil) ⟨f3, by show r'.length ≤ _; omega, by show b'.length ≤ _; omega⟩) (shaped_ord _ _) (shaped_ord _ _)) (ev_var (i := 10) rfl) (shaped_bool _) (shaped_bool _))).is (by
        dsimp only
        rw [eqv_wd, eqv_ord, eqv_bool]
        unfold alikeB
        dsimp only
        rw [show decide (((told (sq b r)).1, (told (sq b r)).2) = ((told (sq b' r')).1, (told (sq b' r')).2)) = decide (told (sq b r) = told (sq b' r')) from rfl]
        generalize decide (told (sq b r) = told (sq b' r')) = z
        cases z <;> rfl)) (fun z => by cases z) fun _ H8 r8 S8 => ⟨rd.trans (RB.of_ex (r7.trans r8)), hk.ex (r7.trans r8), S8.weak ⟨rfl, rfl, rfl, rfl, rfl, trivial⟩⟩
  generalize eF : told (sq b r) = ff at *
  obtain ⟨fb, fr⟩ := ff
  dsimp only at t1 t2 t5 t3 t4 tt st S
  refine sq_set (R := Ex) (p := im K (hB h l) (.int ((fb.length + fr.length : Nat) : Int))) S ((ev_add (ev_lenI (ev_ixT (ev_var (i := 6) rfl) ev_int rfl)) (ev_lenI (ev_ixT (ev_var (i := 6) rfl) ev_int rfl))).is (by rw [Int.natCast_add])) fun s7 H7 r7 S7 => ?_
  have mL : mx7 L ≤ 9 := by unfold mx7; split <;> (try split) <;> omega
  have at_ : atI [PyData.int 9, .int 7, .int 5] ((L : Int) - 1) = some (.int (mx7 L : Nat)) := by
    have : L = 1 ∨ L = 2 ∨ L = 3 := by omega
    rcases this with rfl | rfl | rfl <;> rfl
  have rb7 : RB (hB h l) H0 H7 := (rc.trans (r2.rb.trans r3.rb)).trans (((RB.of_ex (r4.trans r5)).trans (RB.of_ex r6)).trans (rd.trans (RB.of_ex r7)))
  refine st_if (R := Ex) S7 (et_test (ev_ltU (ev_var (i := 11) rfl) (ev_ixL ((ev_lstN (K := K) (ds := [.int 9, .int 7, .int 5]) (ea_cons ev_int (ea_cons ev_int (ea_cons ev_int ea_nil))) (show 3 ≤ sizeLine by decide)).conv fun _ _ _ z => z.im) (ev_sub (ev_var (i := 2) rfl) ev_int) at_))) (fun hc H8 r8 S8 => ?_) fun _ H8 r8 S8 => ⟨rb7.trans (RB.of_ex r8), hk.ex (r7.trans r8), S8.weak ⟨rfl, rfl, rfl, trivial⟩⟩
  have hc : fb.length + fr.length < mx7 L := by have := of_decide_eq_true hc; omega
  have cc := mx7_ok L (by omega) (fb.length + fr.length) (by omega) (by omega) hc
  generalize eN : fb.length + fr.length = n at *
  have mem : (fb, fr) ∈ due L n := due_all t5 t3 t4 tt (by omega)
  obtain ⟨j, j1, j2, j3, j4⟩ := rise_index (due_rise L n) mem
  have ld := due_len L n
  refine sq_set (R := Ex) (p := im K (hB h l) (.list ((due L n).map wdp))) S8 (ev_listT (ev_call (L, n) (ea_cons (ev_var (i := 2) rfl) (ea_cons (ev_var (i := 11) rfl) ea_nil)) ⟨by show 1 ≤ L; omega, by show n ≤ _; omega, by show EL.cnt L n ≤ _; omega⟩)) fun s9 H9 r9 S9 => ?_
  refine sq_set (R := Ex) (p := im K (hB h l) (.list (((due L n).filter fun v => aheadB v.1 v.2 fb fr).map wdp))) S9 ((ev_lcFilterL (K := K) wdp wdp (fun v => aheadB v.1 v.2 fb fr) ([], []) (ev_var (i := 12) rfl) (Nat.le_trans (show _ ≤ 2000 by omega) (by decide)) (fun x _ => plain_wd _ _)
    (fun x Hg hx rg => (et_test (ev_ltD (ev_call x (ea_cons (ev_var (i := 15) rfl) ea_nil) ?_) (ev_call (fb, fr) (ea_cons (ev_var (i := 6) rfl) ea_nil) ⟨t5, by show fr.length ≤ _; omega, by show fb.length ≤ _; omega⟩) (alike_ord _ _ _ _) (by intro z; cases z) (Nat.le_trans (depth_ord _ _) (by decide)))).is ?_) fun x Hg hx _ rg => ev_var (i := 15) rfl).conv fun _ _ _ z => z.im) fun s10 H10 r10 S10 => ?_
  · have d := due_mem hx
    exact ⟨d.2.2.1, by omega, by omega⟩
  · dsimp only
    rw [lt_ord, due_told hx, tt]
  refine st_if (R := Ex) (b := false) S10 ((et_or (et_test (ev_notInD (ev_var (i := 6) rfl) (ev_var (i := 12) rfl) (shaped_wd _ _) (shaped_wds _))) fun _ => et_test (ev_neI (ev_indexD (K := K) (j := j) (z := wdp (fb, fr)) (ev_var (i := 12) rfl) (ev_var (i := 6) rfl) (shaped_wds _) (shaped_wd _ _) (by rw [List.getElem?_map, j2]; rfl) (by rw [eqv_wd]; simp) fun m z hm hz => ?_) ((ev_lenL (ev_var (i := 13) rfl)).is (by rw [List.length_map, j4])))).is (by
      rw [show ((due L n).map wdp).any (fun z => PyData.eqv z (wd fb fr)) = true from any_wds mem]; simp)) (fun z => by cases z) fun _ H11 r11 S11 => ⟨rb7.trans (RB.of_ex ((r8.trans r9).trans (r10.trans r11))), hk.ex ((r7.trans r8).trans ((r9.trans r10).trans r11)), S11.weak ⟨rfl, rfl, rfl, trivial⟩⟩
  rw [List.getElem?_map] at hz
  have hm2 : m < (due L n).length := by omega
  rw [List.getElem?_eq_getElem hm2] at hz
  have hz : wdp (due L n)[m] = z := Option.some.inj hz
  rw [← hz, eqv_wd]
  refine decide_eq_false fun e => j3 m hm ?_
  rw [List.getElem?_eq_getElem hm2]
  exact congrArg some e
end
/-! ### the head and the end -/
def mkD (x : Str) (i : Nat) : He.DefD := ⟨(x, none), x, x, defArgs (top i), defBody (top i), defScope (top i), [], []⟩
def fn : List He.DefD := [mkD "letter_at" 1, mkD "shortest_round" 2, mkD "told_form" 3, mkD "order_of" 4, mkD "from_on" 5, mkD "led_by" 6, mkD "letter_rows" 7, mkD "words_upto" 8, mkD "_law_hand" 10, mkD "_law_pick" 11, mkD "_law_of" 12, mkD "_law_letter" 13, mkD "_law_row" 14, mkD "_law_word" 15, mkD "_law_alike" 16, mkD "_law_near" 17, mkD "law" 18]
def fa : List He.Fa := [.glo "letter_at", .glo "shortest_round", .glo "told_form", .glo "order_of", .glo "from_on", .glo "led_by", .glo "letter_rows", .glo "words_upto", .glo "_law_hand", .glo "_law_pick", .glo "_law_of", .glo "_law_letter", .glo "_law_row", .glo "_law_word", .glo "_law_alike", .glo "_law_near", .glo "law", .free "len", .free "range", .free "tuple", .free "list", .free "any", .free "all", .free "max", .free "int"]
abbrev Rw : PySem.W.OpenRow := PySem.W.OpenLaw.row PySem.Challenge.rw_endlesshall_k07_whole_the_same_words
abbrev hk : PySem.W.Hook := He.hookD 4 fa fn
def ob (s : PySem.W.SharedT) : He.AlD := He.obsDG 4 fa fn (HandSHeadRun.getT s)
theorem ob_eq (s : PySem.W.SharedT) : ob s = hk.obs s.abs := He.obsDG_eq (HandSHeadRun.getT_eq s)
def names : List PySem.Str := ["letter_at", "shortest_round", "told_form", "order_of", "from_on", "led_by", "letter_rows", "words_upto", "_law_hand", "_law_pick", "_law_of", "_law_letter", "_law_row", "_law_word", "_law_alike", "_law_near"]
theorem run (w : World) : HandSHeadRun.RunEq Rw (PySem.W.view Rw.prog [18]) hk ob 1500 names w := by
  intro os
  kernel_rfl
theorem facts {P : Program} {w : World} {K : PySem.W.Frag} {h : Heap} {mg : Str → Option Value} {f : Addr} (X : K.In h) (G : h.Ns mainGlobals mg) (hfa : mg ("law" : Str) = some (.ref f)) (c : He.SaysD fa fn K) :
    ∃ fd : FuncData, (∀ (s : Shared) (v : Value), BindsTo s fd ⟨[v], []⟩ [("_law_script", v)]) ∧ ∀ base : Heap, K.In base → base.Ns mainGlobals mg → FnG P w K mg base CX0 4 f fd ["_law_script"] (spLaw K) := by
  obtain ⟨fd_letter_at, F_letter_at⟩ := c.def_ 0 (d := mkD "letter_at" 1) rfl
  obtain ⟨fd_shortest_round, F_shortest_round⟩ := c.def_ 1 (d := mkD "shortest_round" 2) rfl
  obtain ⟨fd_told_form, F_told_form⟩ := c.def_ 2 (d := mkD "told_form" 3) rfl
  obtain ⟨fd_order_of, F_order_of⟩ := c.def_ 3 (d := mkD "order_of" 4) rfl
  obtain ⟨fd_from_on, F_from_on⟩ := c.def_ 4 (d := mkD "from_on" 5) rfl
  obtain ⟨fd_led_by, F_led_by⟩ := c.def_ 5 (d := mkD "led_by" 6) rfl
  obtain ⟨fd_letter_rows, F_letter_rows⟩ := c.def_ 6 (d := mkD "letter_rows" 7) rfl
  obtain ⟨fd_words_upto, F_words_upto⟩ := c.def_ 7 (d := mkD "words_upto" 8) rfl
  obtain ⟨fd__law_hand, F__law_hand⟩ := c.def_ 8 (d := mkD "_law_hand" 10) rfl
  obtain ⟨fd__law_pick, F__law_pick⟩ := c.def_ 9 (d := mkD "_law_pick" 11) rfl
  obtain ⟨fd__law_of, F__law_of⟩ := c.def_ 10 (d := mkD "_law_of" 12) rfl
  obtain ⟨fd__law_letter, F__law_letter⟩ := c.def_ 11 (d := mkD "_law_letter" 13) rfl
  obtain ⟨fd__law_row, F__law_row⟩ := c.def_ 12 (d := mkD "_law_row" 14) rfl
  obtain ⟨fd__law_word, F__law_word⟩ := c.def_ 13 (d := mkD "_law_word" 15) rfl
  obtain ⟨fd__law_alike, F__law_alike⟩ := c.def_ 14 (d := mkD "_law_alike" 16) rfl
  obtain ⟨fd__law_near, F__law_near⟩ := c.def_ 15 (d := mkD "_law_near" 17) rfl
  obtain ⟨fd_law, F_law⟩ := c.def_ 16 (d := mkD "law" 18) rfl
  have g : ∀ (i : Nat) (x : Str), fa[i]? = some (.glo x) → mg x = some (.ref (He.ga K x)) := fun i x e => He.glo_ok X G (c.fact i e)
  have m : ∀ (i : Nat) (x : Str), fa[i]? = some (.free x) → mg x = none := fun i x e => He.free_ok X G (c.fact i e)
  have g_letter_at := g 0 "letter_at" rfl
  have g_shortest_round := g 1 "shortest_round" rfl
  have g_told_form := g 2 "told_form" rfl
  have g_order_of := g 3 "order_of" rfl
  have g_from_on := g 4 "from_on" rfl
  have g_led_by := g 5 "led_by" rfl
  have g_letter_rows := g 6 "letter_rows" rfl
  have g_words_upto := g 7 "words_upto" rfl
  have g__law_hand := g 8 "_law_hand" rfl
  have g__law_pick := g 9 "_law_pick" rfl
  have g__law_of := g 10 "_law_of" rfl
  have g__law_letter := g 11 "_law_letter" rfl
  have g__law_row := g 12 "_law_row" rfl
  have g__law_word := g 13 "_law_word" rfl
  have g__law_alike := g 14 "_law_alike" rfl
  have g__law_near := g 15 "_law_near" rfl
  have g_law := g 16 "law" rfl
  have m_len := m 17 "len" rfl
  have m_range := m 18 "range" rfl
  have m_tuple := m 19 "tuple" rfl
  have m_list := m 20 "list" rfl
  have m_any := m 21 "any" rfl
  have m_all := m 22 "all" rfl
  have m_max := m 23 "max" rfl
  have m_int := m 24 "int" rfl
  have e := hfa.symm.trans g_law
  cases e
  have b_letter_at : Binds K fd_letter_at ["word", "k"] [] := F_letter_at.bindsN fun _ _ _ _ _ _ us hl => match us, hl with | [_, _], _ => rfl
  have b_shortest_round : Binds K fd_shortest_round ["again"] [] := F_shortest_round.bindsN fun _ _ _ _ _ _ us hl => match us, hl with | [_], _ => rfl
  have b_told_form : Binds K fd_told_form ["word"] [] := F_told_form.bindsN fun _ _ _ _ _ _ us hl => match us, hl with | [_], _ => rfl
  have b_order_of : Binds K fd_order_of ["word"] [] := F_order_of.bindsN fun _ _ _ _ _ _ us hl => match us, hl with | [_], _ => rfl
  have b_from_on : Binds K fd_from_on ["word", "k"] [] := F_from_on.bindsN fun _ _ _ _ _ _ us hl => match us, hl with | [_, _], _ => rfl
  have b_led_by : Binds K fd_led_by ["some", "word"] [] := F_led_by.bindsN fun _ _ _ _ _ _ us hl => match us, hl with | [_, _], _ => rfl
  have b_letter_rows : Binds K fd_letter_rows ["letters", "size"] [] := F_letter_rows.bindsN fun _ _ _ _ _ _ us hl => match us, hl with | [_, _], _ => rfl
  have b_words_upto : Binds K fd_words_upto ["letters", "size"] [] := F_words_upto.bindsN fun _ _ _ _ _ _ us hl => match us, hl with | [_, _], _ => rfl
  have b__law_hand : Binds K fd__law_hand ["_law_script"] [] := F__law_hand.bindsN fun _ _ _ _ _ _ us hl => match us, hl with | [_], _ => rfl
  have b__law_pick : Binds K fd__law_pick ["_law_hand_here", "_law_many"] [] := F__law_pick.bindsN fun _ _ _ _ _ _ us hl => match us, hl with | [_, _], _ => rfl
  have b__law_of : Binds K fd__law_of ["_law_hand_here", "_law_some"] [] := F__law_of.bindsN fun _ _ _ _ _ _ us hl => match us, hl with | [_, _], _ => rfl
  have b__law_letter : Binds K fd__law_letter ["_law_word_here", "_law_k"] [] := F__law_letter.bindsN fun _ _ _ _ _ _ us hl => match us, hl with | [_, _], _ => rfl
  have b__law_row : Binds K fd__law_row ["_law_hand_here", "_law_letters", "_law_many"] [] := F__law_row.bindsN fun _ _ _ _ _ _ us hl => match us, hl with | [_, _, _], _ => rfl
  have b__law_word : Binds K fd__law_word ["_law_hand_here", "_law_letters"] [] := F__law_word.bindsN fun _ _ _ _ _ _ us hl => match us, hl with | [_, _], _ => rfl
  have b__law_alike : Binds K fd__law_alike ["_law_one", "_law_other"] [] := F__law_alike.bindsN fun _ _ _ _ _ _ us hl => match us, hl with | [_, _], _ => rfl
  have b__law_near : Binds K fd__law_near ["_law_hand_here", "_law_words", "_law_letters"] [] := F__law_near.bindsN fun _ _ _ _ _ _ us hl => match us, hl with | [_, _, _], _ => rfl
  have b_law := FunD.bindsA (ps := ["_law_script"]) F_law fun _ _ _ _ _ _ us hl => match us, hl with | [_], _ => rfl
  exact ⟨fd_law, fun s v => b_law s [v] rfl, fun base _ _ => ok_law F_law F__law_hand b__law_hand g__law_hand F__law_pick b__law_pick g__law_pick F__law_of b__law_of g__law_of F__law_row b__law_row g__law_row F__law_word b__law_word g__law_word F__law_letter b__law_letter g__law_letter F__law_alike b__law_alike g__law_alike F__law_near b__law_near g__law_near F_letter_at b_letter_at g_letter_at F_from_on b_from_on g_from_on F_led_by b_led_by g_led_by F_order_of b_order_of g_order_of F_words_upto b_words_upto g_words_upto F_letter_rows b_letter_rows g_letter_rows F_told_form b_told_form g_told_form F_shortest_round b_shortest_round g_shortest_round m_len m_range m_tuple m_list m_any m_all m_max m_int⟩
end EK
open PySem PySem.W PySem.Calls PyProof.Rows
set_option maxHeartbeats 0 in
theorem PySem.Challenge.cw_endlesshall_k07_whole_the_same_words_holds : PySem.Challenge.rw_endlesshall_k07_whole_the_same_words.Holds := by
  w_on; o_law
  refine HandSHeadRun.head_any (r := EK.Rw) (q := view EK.Rw.prog [18]) (H := EK.hk) (ob := EK.ob) (M := 1500) (loose := EK.names) (d := HandSHeadRun.topDef EK.Rw.prog 18) (kwd := []) EK.ob_eq
    (by kernel_rfl) (fun s => by kernel_rfl) EK.run (by kernel_rfl) (by kernel_rfl) (by kernel_rfl) (by rfl) (by first | assumption | decide +kernel) (by decide +kernel) ⟨rfl, rfl, rfl, rfl, rfl, by decide +kernel⟩ ?hw ?hc
  case hw => w_witness2
  case hc =>
    refine EL.walkG (l := PySem.Challenge.rw_endlesshall_k07_whole_the_same_words) (n := 63) (k := 4) (x := "_law_script") rfl (by decide) (by kernel_rfl) ⟨rfl, by decide, by decide⟩ ?F
    intro w mg fa h Y G hmg0
    obtain ⟨K, KX, c⟩ := Y
    have hmg : mg ("law" : PySem.Str) = some (.ref fa) := by
      have e : (HandSHeadRun.topDef EK.Rw.prog 18).name = ("law" : PySem.Str) := by kernel_rfl
      rw [← e]
      exact hmg0
    obtain ⟨fd, hb, hF⟩ := EK.facts (P := (PySem.Challenge.rw_endlesshall_k07_whole_the_same_words).prog) (w := w) KX G hmg c
    exact ⟨K, fd, EL.spLaw K, KX, hb, fun H a ns hl _ hS => ⟨a, ns, rfl, hS, hl, fun _ => rfl⟩, hF⟩


