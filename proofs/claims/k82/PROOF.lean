import PyProof.Rows.All
import Wide.All
import OpenK.AllK
import Wide.FinOn
import KE.KStateDown
import Lean
import HandS.ForMost
import HandS.More
import HandS.WordsExc
import HandS.Defaults
import HandS.IsInst
import HandS.TupAny
import HandS.TupMul
import HandS.Head0
import HandS.Head1
import HandS.Head2
import HandS.HeadEnd
import HandS.HeadHook1
import HandS.HeadHook2
import PyProof.ListMulRoad
import KE.KUnpackStar
import PyProof.FactsAll.tuple_2
import HandS.Style
import HandS.Walk
import HandS.Codes
import KE.LtData
import HandS.Zip
import HandS.Deep
import HandS.TupSets
import HandS.SetKeys
import HandS.BoundDict
import KE.KeyNested
import KE.KDictKeyed
import HandS.CallLocal
import HandS.HeadHook3
import PyProof.WalksMore
import HandS.HeadHook4
import KE.GoesEnum
import KE.GoesMore
import HandS.SetBool
import HandS.Strs
import HandS.SetFor
import HandS.Conv
import PyProof.DictMoreH
import KE.KDictPairs
import HandS.DictComp
import HandS.SortKw
import KE.DataMinMax
import KE.KDictCopyH
import HandS.Rev
import HandS.OwnEq
import HandS.NamedTupGet
import PyProof.InstNe
import KE.KCallOwn
import HandS.MakeKwOnly
import HandS.Text
import HandS.RaiseMore
import HandS.FStr
import HandS.SortInts
import HandS.TupLen
import PyProof.Rows.TupDisplay
import HandS.DictTup
import HandS.SortOrd
import HandS.Exc
import HandS.ExcOwn
import HandS.TryOnly
import HandS.ExcValue
import HandS.ExcIs
import PyProof.NeKinds
import PyProof.ReprRoads
import PyProof.EqKinds
import PyProof.Rows.IntBool
import HandS.Iter
import HandS.ExcInit
import HandS.ExcField
import KE.DataFind
import KE.IntTextLaws
import HandS.MakeKw
import KE.SortData
import KE.KDictZip
import HandS.Zip0
import PyProof.EnumMake
import PySem.Challenge.RW_endlesshall_k82_game_texts_spoilt_anywhe
set_option Elab.async false
set_option linter.all false
set_option maxRecDepth 100000
set_option maxHeartbeats 4000000
set_option autoImplicit false
namespace UX
open PySem PySem.Spec PyProof.Rows L2
abbrev Vls : Type := (PySem.W.Frag → Addr) × List (Str × He.Dv)
abbrev AlU : Type := He.AlT × Bool
def obsU (fa : List He.Fa) (fn : List He.DefD) (ts : List He.Tab) (vs : List Vls) (K : PySem.W.Frag) : AlU := (He.obsT fa fn ts K, vs.all fun q => He.valsB K (q.1 K) q.2)
def valU (fn : List He.DefD) (ts : List He.Tab) (w : World) : AlU := (He.valT fn ts w, true)
def SaysU (fa : List He.Fa) (fn : List He.DefD) (ts : List He.Tab) (vs : List Vls) (w : World) (K : PySem.W.Frag) : Prop := obsU fa fn ts vs K = valU fn ts w
def okT : List String := ["NoneType", "bool", "int", "str", "tuple", "list", "dict"]
def oexB (K : PySem.W.Frag) (C : Addr) : Bool := (match K.lookup C with
  | some ⟨.type "type", _, .cls cd, sl⟩ => (match cd.mro, sl.toList with
    | .ref C' :: bm, [_, _, _, _, some (.builtin n), _] => decide (C' = C) && (decide (n = "ValueError.__new__") && (!cd.hasDel && (cd.hasDict && PySem.HandSPX.refsVE bm)))
    | _, _ => false)
  | _ => false) && (He.eqO (PySem.W.findIn K (.ref C) "__setattr__") (some (some (.builtin "object.__setattr__"))) && (decide (PySem.W.subIn K (.ref C) (.type "BaseException") = some true) && (decide (PySem.W.typeIn K (.ref C) = some (.type "type")) && PySem.W.keepIn K (.ref C))))
inductive FaX where
  | spec (c m : Str) (id : String)
  | obj (c : Str)
  | ins (c : Str)
  | excI (c : Str)
  | kit (c d : Str) (b : Bool)
  | kitT (c : Str) (t : String) (b : Bool)
  | kitA (c : Str) (ds : List Str) (b : Bool)
  | oex (c : Str)
  | exi (c : Str)
  | noa (c f : Str)
  | ebs (c : Str)
def FaX.ok (K : PySem.W.Frag) : FaX → Bool
  | .spec c m id => He.eqO (PySem.W.findIn K (.ref (He.ga K c)) m) (some (some (.builtin id)))
  | .obj c => decide (PySem.W.mroIn K (He.ga K c) (.type "object") = some true)
  | .ins c => He.eqO (PySem.W.findIn K (.ref (He.ga K c)) "__class__") (some (some (.builtin "object.__class__"))) && (He.eqO (PySem.W.specialIn K (.builtin "object.__class__") "__get__") (some (some (.builtin "getset_descriptor.__get__"))) && (decide (PySem.W.takesIn K (.builtin "object.__class__") = some true) && (decide (PySem.W.mroIn K (He.ga K c) (.type "object") = some true) && ((PySem.W.typeIn K (.ref (He.ga K c)) == some (.type "type")) && okT.all fun T => PySem.W.mroIn K (He.ga K c) (.type T) == some false))))
  | .excI c => He.eqO (PySem.W.findIn K (.ref (He.ga K c)) "__getattribute__") (some (some (.builtin "BaseException.__getattribute__"))) && (He.eqO (PySem.W.findIn K (.ref (He.ga K c)) "__getattr__") (some none) && (decide (PySem.W.subIn K (.ref (He.ga K c)) (.type "BaseException") = some true) && (PySem.W.hasDictIn K (He.ga K c) && (He.eqO (PySem.W.findIn K (.ref (He.ga K c)) "__class__") (some (some (.builtin "object.__class__"))) && (He.eqO (PySem.W.specialIn K (.builtin "object.__class__") "__get__") (some (some (.builtin "getset_descriptor.__get__"))) && (decide (PySem.W.takesIn K (.builtin "object.__class__") = some true) && decide (PySem.W.mroIn K (He.ga K c) (.type "object") = some true)))))))
  | .kit c d b => decide (PySem.W.kitOne K (.ref (He.ga K c)) (.ref (He.ga K d)) = some b)
  | .kitT c t b => decide (PySem.W.kitOne K (.ref (He.ga K c)) (.type t) = some b)
  | .kitA c ds b => decide (PySem.W.kitAny K (.ref (He.ga K c)) (ds.map fun d => .ref (He.ga K d)) = some b)
  | .oex c => oexB K (He.ga K c)
  | .exi c => He.eqO (PySem.W.findIn K (.ref (He.ga K c)) "__init__") (some (some (.ref (He.ma K (He.ga K c) "__init__")))) && decide (PySem.W.typeIn K (.ref (He.ma K (He.ga K c) "__init__")) = some (.type "function"))
  | .noa c f => He.eqO (PySem.W.findIn K (.ref (He.ga K c)) f) (some none)
  | .ebs c => PySem.W.readsIn K (He.ga K c) (.type "type") && (He.eqO (PySem.W.specialIn K (.ref (He.ga K c)) "__getattribute__") (some (some (.builtin "type.__getattribute__"))) && (match PySem.W.findCls K (.ref (He.ga K c)) (.type "type") "__init__" with | some (.val (.builtin n)) => decide (n = "ValueError.__init__") | _ => false))
def obsV (fa : List He.Fa) (fn : List He.DefD) (ts : List He.Tab) (vs : List Vls) (xs : List FaX) (K : PySem.W.Frag) : AlU := (He.obsT fa fn ts K, (vs.all fun q => He.valsB K (q.1 K) q.2) && xs.all fun x => x.ok K)
def SaysV (fa : List He.Fa) (fn : List He.DefD) (ts : List He.Tab) (vs : List Vls) (xs : List FaX) (w : World) (K : PySem.W.Frag) : Prop := obsV fa fn ts vs xs K = valU fn ts w
def SysD (K : PySem.W.Frag) : Prop := ∃ o, K.lookup sysModules = some o ∧ o.cls = .type "dict"
def sysB (K : PySem.W.Frag) : Bool := match K.lookup sysModules with
  | some ⟨.type c, _, _, _⟩ => decide (c = "dict")
  | _ => false
theorem sysB_ok {K : PySem.W.Frag} (h : sysB K = true) : SysD K := by
  unfold sysB at h
  split at h
  · rename_i e
    exact ⟨_, e, by rw [of_decide_eq_true h]⟩
  · cases h
def obsSG (n : Nat) (fa : List He.Fa) (fn : List He.DefD) (ts : List He.Tab) (vs : List Vls) (xs : List FaX) (g : Addr → Option Obj) : AlU × Bool := (obsV fa fn ts vs xs (He.frG g (PySem.cStatics :: sysModules :: He.asD g n)), sysB (He.frG g (PySem.cStatics :: sysModules :: He.asD g n)))
def SaysS (fa : List He.Fa) (fn : List He.DefD) (ts : List He.Tab) (vs : List Vls) (xs : List FaX) (w : World) (K : PySem.W.Frag) : Prop := SaysV fa fn ts vs xs w K ∧ SysD K
def hookS (n : Nat) (fa : List He.Fa) (fn : List He.DefD) (ts : List He.Tab) (vs : List Vls) (xs : List FaX) : PySem.W.Hook where
  α := AlU × Bool
  obs := fun s => obsSG n fa fn ts vs xs s.heap.get?
  val := fun w => (valU fn ts w, true)
  says := fun w h => ∃ K : PySem.W.Frag, K.In h ∧ SaysS fa fn ts vs xs w K
  of := fun _ _ e => ⟨_, He.frG_in, congrArg Prod.fst e, sysB_ok (congrArg Prod.snd e)⟩
  keeps := fun _ _ _ ⟨K, hK, c⟩ k => ⟨K, PySem.W.Frag.In.keeps hK k, c⟩
theorem obsSG_eq {n : Nat} {fa : List He.Fa} {fn : List He.DefD} {ts : List He.Tab} {vs : List Vls} {xs : List FaX} {g : Addr → Option Obj} {s : Shared} (h : ∀ a, g a = s.heap.get? a) : obsSG n fa fn ts vs xs g = (hookS n fa fn ts vs xs).obs s := by
  obtain rfl : g = s.heap.get? := funext h
  rfl
end UX
namespace EK
open PySem PySem.Spec PyProof.Rows L2 UX
def top (i : Nat) : Stmt := PySem.Challenge.pw_endlesshall_k82_game_texts_spoilt_anywhe.main.body.getD i (.Pass ⟨0, 0, 0, 0⟩)
def inn (i j : Nat) : Stmt := match top i with
  | .ClassDef _ _ _ b _ _ _ _ _ _ _ => b.getD j (.Pass ⟨0, 0, 0, 0⟩)
  | _ => .Pass ⟨0, 0, 0, 0⟩
namespace HD
def mkD (x : Str) (i : Nat) : He.DefD := ⟨(x, none), x, x, defArgs (top i), defBody (top i), defScope (top i), [], []⟩
def mkDd (x : Str) (i : Nat) (k : List He.Dv) : He.DefD := ⟨(x, none), x, x, defArgs (top i), defBody (top i), defScope (top i), k, []⟩
def mkMt (c m q : Str) (i j : Nat) : He.DefD := ⟨(c, some m), m, q, defArgs (inn i j), defBody (inn i j), defScope (inn i j), [], []⟩
def fn : List He.DefD := [mkD "_law_hand" 37, mkD "_law_game_text" 41, mkD "_law_pick" 38, mkD "_law_game" 40, mkD "_law_of" 39, mkD "_law_sign_changed" 43, mkD "_law_words_changed" 42, mkD "_law_spoilt" 44, mkD "rows_of" 30, mkD "number_of" 27, mkD "numbers_of" 28, mkDd "numbers_behind" 29 [.non], mkD "place_in_game" 34, mkD "way_in_game" 33, mkD "taken" 31, mkD "check_end" 32, mkD "is_whole" 13, mkD "is_below" 14, mkD "are_below" 19, mkD "are_owners" 20, mkD "are_rising" 15, mkD "are_ways" 21, mkD "fault_of" 22, mkMt "Game" "__init__" "Game.__init__" 23 0, mkD "read_game" 35, mkD "_law_class" 46, mkD "_law_told" 48, mkD "_law_numbers" 45, mkD "_law_read" 47, mkD "_law_due" 49, mkD "law" 50, mkMt "NoText" "__init__" "NoText.__init__" 5 0, mkMt "NoGame" "__init__" "NoGame.__init__" 4 0]
def fa : List He.Fa := [.glo "_law_hand", .glo "_law_game_text", .glo "_law_pick", .glo "_law_game", .glo "_law_of", .glo "_law_sign_changed", .glo "_law_words_changed", .glo "_law_spoilt", .glo "rows_of", .glo "number_of", .glo "numbers_of", .glo "numbers_behind", .glo "place_in_game", .glo "way_in_game", .glo "taken", .glo "check_end", .glo "is_whole", .glo "is_below", .glo "are_below", .glo "are_owners", .glo "are_rising", .glo "are_ways", .glo "fault_of", .glo "read_game", .glo "_law_class", .glo "_law_told", .glo "_law_numbers", .glo "_law_read", .glo "_law_due", .glo "law", .free "ValueError", .free "all", .free "bool", .free "enumerate", .free "int", .free "isinstance", .free "len", .free "range", .free "repr", .free "str", .free "tuple", .free "zip", .glo "NoText", .glo "NoGame", .glo "HallError", .glo "NoHall", .glo "NoLine", .glo "NoName", .glo "NoSort", .glo "NotCertain", .glo "TooMany", .glo "Unlike", .exm "NoText" "HallError" true, .exm "NoGame" "HallError" true, .glo "Game", .cls "Game", .mkr "Game", .noat "Game" "owners", .noat "Game" "ranks", .noat "Game" "ways", .int "MOST_FIGURES" 9, .str "FIGURES" "0123456789", .int "SIDES" 2, .int "RANKS" 10]
def ts : List He.Tab := []
def vls : List Vls := []
def names0 : List PySem.Str := ["_wall", "HallError", "NoHall", "NoGame", "NoText", "NoSort", "NoName", "Unlike", "TooMany", "NotCertain", "NoLine", "is_whole", "is_below", "are_rising", "SIDES", "RANKS", "are_below", "are_owners", "are_ways", "fault_of", "Game", "FIGURES", "MOST_FIGURES", "number_of", "numbers_of", "numbers_behind", "rows_of", "taken", "check_end", "way_in_game"]
def names1 : List PySem.Str := ["place_in_game", "read_game", "_law_hand", "_law_pick", "_law_of", "_law_game", "_law_game_text", "_law_words_changed", "_law_sign_changed", "_law_spoilt", "_law_numbers", "_law_class", "_law_read", "_law_told", "_law_due"]
def xs : List FaX := [.excI "NoText", .kit "NoText" "NoText" true, .kit "NoText" "NoHall" false, .kit "NoText" "NoGame" false, .kitT "NoText" "ValueError" true, .kitA "NoText" ["NoLine", "NoName", "NoSort", "NotCertain", "TooMany", "Unlike"] false, .excI "NoGame", .kit "NoGame" "NoText" false, .kit "NoGame" "NoHall" false, .kit "NoGame" "NoGame" true, .kitT "NoGame" "ValueError" true, .kitA "NoGame" ["NoLine", "NoName", "NoSort", "NotCertain", "TooMany", "Unlike"] false, .oex "NoText", .exi "NoText", .noa "NoText" "row", .oex "NoGame", .exi "NoGame", .noa "NoGame" "why", .ebs "HallError"]
abbrev Rw : PySem.W.OpenRow := PySem.W.OpenLaw.row PySem.Challenge.rw_endlesshall_k82_game_texts_spoilt_anywhe
abbrev hk : PySem.W.Hook := hookS 6 fa fn ts vls xs
def ob (s : PySem.W.SharedT) : AlU × Bool := obsSG 6 fa fn ts vls xs (HandSHeadRun.getT s)
theorem ob_eq (s : PySem.W.SharedT) : ob s = hk.obs s.abs := obsSG_eq (HandSHeadRun.getT_eq s)
def names : List PySem.Str := names0 ++ names1
abbrev RE (w : World) : Prop := HandSHeadRun.RunEq Rw (PySem.W.view Rw.prog [50]) hk ob 6000 names w
theorem runF (w : World) : RE (w.withFollow "special-get-raises" false) := fun os => by kernel_rfl
theorem runT (w : World) : RE (w.withFollow "special-get-raises" true) := fun os => by kernel_rfl
theorem run (w : World) : HandSHeadRun.RunEq Rw (PySem.W.view Rw.prog [50]) hk ob 6000 names w := PySem.W.byRow2 "special-get-raises" (P := RE) runF runT w
end HD
end EK
namespace EL
open PySem PySem.Spec PyProof.Rows L2
theorem mul_same (l : Addr) (its : Array Value) (n : Nat) (dd : Option Addr) (sl : Array (Option Value)) (x : Int) (u : Tok) (c0 : (decide (x < -(2 ^ 63)) || decide (x ≥ 2 ^ 63)) = false) (c1 : (its.isEmpty || x == 1) = true) :
    Meets (Builtin.«tuple.__mul__» ⟨[.ref l, .int x u], []⟩) (fun _ R s => s.heap.get? l = some { cls := .type "tuple", dict := dd, data := .seq its n, slots := sl } ∧ R (.ok (.ret (Value.ref l))) s) :=
  .of_wp fun prog w A R s h => by
    obtain ⟨hp, g, d, tk, os⟩ := s
    obtain ⟨hl, h⟩ := h
    have f1 := AutoSeq1.idx_int
    wp_walk using wpAny_loadPart' hl
    repeat (first
      | (refine wpAny_ite_false (decide_eq_false (by rw [c0]; exact Bool.false_ne_true)) ?_; wp_walk using wpAny_loadPart' hl)
      | (refine wpAny_ite_true (decide_eq_true c1) ?_; wp_walk using wpAny_loadPart' hl))
    exact ⟨_, rfl, h⟩
theorem mul_none (l : Addr) (its : Array Value) (n : Nat) (dd : Option Addr) (sl : Array (Option Value)) (x : Int) (u : Tok) (c0 : (decide (x < -(2 ^ 63)) || decide (x ≥ 2 ^ 63)) = false) (c1 : (its.isEmpty || x == 1) = false) (c2 : (decide (x ≤ 0) || its.isEmpty) = true) :
    Meets (Builtin.«tuple.__mul__» ⟨[.ref l, .int x u], []⟩) (fun _ R s => s.heap.get? l = some { cls := .type "tuple", dict := dd, data := .seq its n, slots := sl } ∧
      R (.ok (.ret (Value.ref s.heap.objs.size))) { s with heap := s.heap.push { cls := Value.type "tuple", data := Data.seq #[] }, toks := s.toks }) :=
  .of_wp fun prog w A R s h => by
    obtain ⟨hp, g, d, tk, os⟩ := s
    obtain ⟨hl, h⟩ := h
    have f1 := AutoSeq1.idx_int
    wp_walk using wpAny_loadPart' hl
    repeat (first
      | (refine wpAny_ite_false (decide_eq_false (by rw [c0]; exact Bool.false_ne_true)) ?_; wp_walk using wpAny_loadPart' hl)
      | (refine wpAny_ite_false (decide_eq_false (by rw [c1]; exact Bool.false_ne_true)) ?_; wp_walk using wpAny_loadPart' hl)
      | (refine wpAny_ite_true (decide_eq_true c2) ?_; wp_walk using wpAny_loadPart' hl))
    exact ⟨_, rfl, h⟩
def rRepA (K : PySem.W.Frag) : R2 := fun x y H Q => ∃ l k xs, x = .ref l ∧ y = .int k ∧ SqT K H l xs ∧ 0 ≤ k ∧ k ≤ 1000 ∧ xs.length ≤ 1000 ∧ ((xs = [] ∨ k = 1) → Q (.ref l) H) ∧
  (xs ≠ [] → k ≠ 1 → ∀ p, H p = none → Q (.ref p) (upd H p (.tup (List.replicate k.toNat xs).flatten)))
section
variable {X : Cx}
theorem op_repA : OpR X (binaryOp .Mult) (rRepA X.K) := by
  intro pins s σ H x y v u Q I rx ry h
  obtain ⟨l, k, xs, rfl, rfl, hT, k0, k1, hz, q1, q2⟩ := h
  by_cases hs : xs = [] ∨ k = 1
  · cases rx
    obtain ⟨t, rfl⟩ := ry
    obtain ⟨its, r, ⟨⟨cls, dd, data, sl⟩, ho, hc, n, hd⟩, hsz⟩ := I.tuple hT
    simp only at hc hd
    subst hc hd
    have c0 : (decide (k < -(2 ^ 63)) || decide (k ≥ 2 ^ 63)) = false := by
      rw [decide_eq_false (by omega), decide_eq_false (by omega)]; rfl
    have c1 : (its.toArray.isEmpty || k == 1) = true := by
      rcases hs with e | e
      · subst e
        have : its = [] := List.eq_nil_of_length_eq_zero r.length.symm
        subst this
        rfl
      · subst e
        exact Bool.or_true _
    exact wpAny_binaryOp_repeat_ref (T := "tuple") (U := "int") (by decide) ⟨_, ho, rfl⟩ (fun s' => typeIs_int s' k t) noFill_tuple_mul F.fills_int_mul F.slot_int_rmul repeat_tuple F.slot_int_index.lookup
      (call_meets F.slot_int_rmul (typeIs_int s k t) F.entry_int_rmul (F.args_int_rmul_2 _ _) (int_rmul_tuple k t l its.toArray n dd sl)
        ⟨ho, rfl, ⟨_, ho, rfl⟩, call_meets F.slot_tuple_mul ⟨_, ho, rfl⟩ F.entry_tuple_mul (F.args_tuple_mul_2 _ _) (mul_same l its.toArray n dd sl k t c0 c1) ⟨ho, ⟨.ref l, H, I, rfl, q1 hs⟩⟩⟩)
  · have hx : xs ≠ [] := fun e => hs (.inl e)
    have hk1 : k ≠ 1 := fun e => hs (.inr e)
    by_cases h2 : 2 ≤ k
    · exact op_repT pins s σ H _ _ v u Q I rx ry ⟨l, k, xs, rfl, rfl, hT, hx, h2, k1, hz, q2 hx hk1⟩
    · have e0 : k = 0 := by omega
      subst e0
      cases rx
      obtain ⟨t, rfl⟩ := ry
      obtain ⟨its, r, ⟨⟨cls, dd, data, sl⟩, ho, hc, n, hd⟩, hsz⟩ := I.tuple hT
      simp only at hc hd
      subst hc hd
      have hi : its.toArray.isEmpty = false := by
        cases its with
        | nil => exact absurd (List.eq_nil_of_length_eq_zero r.length) hx
        | cons a b => rfl
      refine wpAny_binaryOp_repeat_ref (T := "tuple") (U := "int") (by decide) ⟨_, ho, rfl⟩ (fun s' => typeIs_int s' 0 t) noFill_tuple_mul F.fills_int_mul F.slot_int_rmul repeat_tuple F.slot_int_index.lookup
        (call_meets F.slot_int_rmul (typeIs_int s 0 t) F.entry_int_rmul (F.args_int_rmul_2 _ _) (int_rmul_tuple 0 t l its.toArray n dd sl)
          ⟨ho, rfl, ⟨_, ho, rfl⟩, call_meets F.slot_tuple_mul ⟨_, ho, rfl⟩ F.entry_tuple_mul (F.args_tuple_mul_2 _ _) (mul_none l its.toArray n dd sl 0 t (by decide) (by rw [hi]; rfl) (by rw [hi]; rfl)) ⟨ho, ?_⟩⟩)
      refine ⟨.ref s.heap.objs.size, _, I.laid (t' := s.toks) (o := .tup []) (fun b ob z => Heap.get?_push_of_some _ z) (Nat.le_refl _) ?_, rfl, q2 hx hk1 _ (I.hok.fresh (Nat.le_refl _))⟩
      exact ⟨Nat.zero_le _, [], .nil, IsTup.new _ _⟩
end
def gStarLast (K : PySem.W.Frag) (i j : Nat) : TG := fun v σ H Q => ∃ a xs y, v = .ref a ∧ SqT K H a (xs ++ [y]) ∧ xs.length ≤ 16000 ∧ ∀ p, H p = none → Q ((σ.set i (some (.ref p))).set j (some y)) (upd H p (.lst xs))
section
variable {X : Cx}
end
def Ex (H H' : Hp) : Prop := ∀ a o, H a = some o → H' a = some o
theorem Ex.refl (H : Hp) : Ex H H := fun _ _ h => h
theorem Ex.trans {H H1 H2 : Hp} (a : Ex H H1) (b : Ex H1 H2) : Ex H H2 := fun x o h => b x o (a x o h)
theorem Ex.new {H : Hp} {p : Addr} {o : HO} (h : H p = none) : Ex H (upd H p o) := fun a u e => by
  rw [upd_ne (ne_of_none e h)]; exact e
theorem Ex.mut {H H' : Hp} {p : Addr} {o : HO} (e : Ex H H') (h : H p = none) : Ex H (upd H' p o) := fun a u ha => by
  rw [upd_ne (ne_of_none ha h)]; exact e a u ha
theorem Ex.free {H H' : Hp} (e : Ex H H') {p : Addr} (h : H' p = none) : H p = none := by
  cases q : H p with
  | none => rfl
  | some o => rw [e p o q] at h; cases h
abbrev Bn := Addr → Prop
structure RB (B : Bn) (H H' : Hp) : Prop where
  keep : ∀ a o, ¬ B a → H a = some o → H' a = some o
  tup : ∀ a xs, H a = some (.tup xs) → H' a = some (.tup xs)
  frz : ∀ a o u, H a = some (.frz o u) → H' a = some (.frz o u)
  ban : ∀ a, B a → H a ≠ none → H' a ≠ none
def BOk (B : Bn) (H : Hp) : Prop := ∀ a, B a → H a ≠ none
theorem RB.refl {B : Bn} (H : Hp) : RB B H H := ⟨fun _ _ _ h => h, fun _ _ h => h, fun _ _ _ h => h, fun _ _ h => h⟩
theorem RB.trans {B : Bn} {H H1 H2 : Hp} (a : RB B H H1) (b : RB B H1 H2) : RB B H H2 :=
  ⟨fun x o n h => b.keep x o n (a.keep x o n h), fun x o h => b.tup x o (a.tup x o h), fun x o u h => b.frz x o u (a.frz x o u h), fun x n h => b.ban x n (a.ban x n h)⟩
theorem RB.of_ex {B : Bn} {H H' : Hp} (e : Ex H H') : RB B H H' := ⟨fun a o _ h => e a o h, fun a o h => e a _ h, fun a o u h => e a _ h, fun a _ h => by
  cases q : H a with
  | none => exact absurd q h
  | some o => rw [e a o q]; exact fun z => nomatch z⟩
theorem RB.sub {B B' : Bn} {H H' : Hp} (s : ∀ a, B a → B' a) (r : RB B H H') : RB B' H H' := ⟨fun a o n h => r.keep a o (fun z => n (s a z)) h, r.tup, r.frz, fun a _ h => by
  rcases Classical.em (B a) with q | q
  · exact r.ban a q h
  · cases e : H a with
    | none => exact absurd e h
    | some o => rw [r.keep a o q e]; exact fun z => nomatch z⟩
theorem BOk.mono {B : Bn} {H H' : Hp} (o : BOk B H) (r : RB B H H') : BOk B H' := fun a b => r.ban a b (o a b)
theorem BOk.none {H : Hp} : BOk (fun _ => False) H := fun _ z => z.elim
theorem RB.sqT {B : Bn} {K : PySem.W.Frag} {H H' : Hp} {a : Addr} {xs : List V} (r : RB B H H') (h : SqT K H a xs) : SqT K H' a xs := by
  rcases h with (h | ⟨o, h⟩) | h
  · exact .inl (.inl (r.tup _ _ h))
  · exact .inl (.inr ⟨o, r.frz _ _ _ h⟩)
  · exact .inr h
theorem RB.sqL {B : Bn} {K : PySem.W.Frag} {H H' : Hp} {a : Addr} {xs : List V} (r : RB B H H') (n : ¬ B a) (h : SqL K H a xs) : SqL K H' a xs := by
  rcases h with (h | ⟨o, h⟩) | h
  · exact .inl (.inl (r.keep _ _ n h))
  · exact .inl (.inr ⟨o, r.frz _ _ _ h⟩)
  · exact .inr h
theorem Ex.sqT {K : PySem.W.Frag} {H H' : Hp} {a : Addr} {xs : List V} (r : Ex H H') (h : SqT K H a xs) : SqT K H' a xs := (RB.of_ex (B := fun _ => False) r).sqT h
theorem Ex.sqL {K : PySem.W.Frag} {H H' : Hp} {a : Addr} {xs : List V} (r : Ex H H') (h : SqL K H a xs) : SqL K H' a xs := (RB.of_ex (B := fun _ => False) r).sqL (fun z => z) h
theorem sqT_of {K : PySem.W.Frag} {H : Hp} {a : Addr} {xs : List V} (h : H a = some (.tup xs)) : SqT K H a xs := .inl (.inl h)
theorem sqL_of {K : PySem.W.Frag} {H : Hp} {a : Addr} {xs : List V} (h : H a = some (.lst xs)) : SqL K H a xs := .inl (.inl h)
class Rok (B : Bn) (R : Hp → Hp → Prop) : Prop where
  rf : ∀ H, R H H
  tr : ∀ {H H1 H2}, R H H1 → R H1 H2 → R H H2
  ex : ∀ {H H'}, Ex H H' → R H H'
  rb : ∀ {H H'}, R H H' → RB B H H'
instance {B : Bn} : Rok B Ex := ⟨Ex.refl, Ex.trans, id, RB.of_ex⟩
instance {B : Bn} : Rok B (RB B) := ⟨RB.refl, RB.trans, RB.of_ex, id⟩
abbrev PV := V → Hp → Prop
class Stb (B : Bn) (p : PV) : Prop where
  st : ∀ {H H' v}, RB B H H' → p v H → p v H'
def isP (v : V) : PV := fun x _ => x = v
instance {B : Bn} {v : V} : Stb B (isP v) := ⟨fun _ h => h⟩
def exP {α : Type} (C : α → Prop) (q : α → PV) : PV := fun v H => ∃ a, C a ∧ q a v H
instance {B : Bn} {α : Type} {C : α → Prop} {q : α → PV} [∀ a, Stb B (q a)] : Stb B (exP C q) := ⟨fun r ⟨a, c, h⟩ => ⟨a, c, Stb.st r h⟩⟩
section
variable (K : PySem.W.Frag) (B : Bn)
mutual
/-- v is the data d, whose lists are none of B -/
def im : PyData → PV
  | .none => isP .non
  | .bool b => isP (.bl b)
  | .int i => isP (.int i)
  | .str x => isP (.str x)
  | .tuple ds => fun v H => ∃ a vs, v = .ref a ∧ SqT K H a vs ∧ imAll ds vs H
  | .list ds => fun v H => ∃ a vs, v = .ref a ∧ ¬ B a ∧ SqL K H a vs ∧ imAll ds vs H
  | .dict _ => fun _ _ => False
def imAll : List PyData → List V → Hp → Prop
  | [], vs, _ => vs = []
  | d :: ds, vs, H => ∃ v r, vs = v :: r ∧ im d v H ∧ imAll ds r H
end
end
section
variable {K : PySem.W.Frag} {B : Bn} {H H' : Hp} {v : V} {d : PyData}
mutual
theorem im_st (r : RB B H H') : ∀ (d : PyData) (v : V), im K B d v H → im K B d v H'
  | .none, _, h => h
  | .bool _, _, h => h
  | .int _, _, h => h
  | .str _, _, h => h
  | .tuple ds, _, ⟨a, vs, e, s, q⟩ => ⟨a, vs, e, r.sqT s, imAll_st r ds vs q⟩
  | .list ds, _, ⟨a, vs, e, n, s, q⟩ => ⟨a, vs, e, n, r.sqL n s, imAll_st r ds vs q⟩
  | .dict _, _, h => h.elim
theorem imAll_st (r : RB B H H') : ∀ (ds : List PyData) (vs : List V), imAll K B ds vs H → imAll K B ds vs H'
  | [], _, h => h
  | d :: ds, _, ⟨v, w, e, h1, h2⟩ => ⟨v, w, e, im_st r d v h1, imAll_st r ds w h2⟩
end
instance : Stb B (im K B d) := ⟨fun r h => im_st r _ _ h⟩
theorem imAll_len : ∀ {ds : List PyData} {vs : List V}, imAll K B ds vs H → vs.length = ds.length
  | [], _, h => by rw [show _ = _ from h]; rfl
  | d :: ds, _, ⟨v, w, e, _, h2⟩ => by rw [e, List.length_cons, List.length_cons, imAll_len h2]
theorem imAll_get : ∀ {ds : List PyData} {vs : List V} {i : Nat} {d : PyData}, imAll K B ds vs H → ds[i]? = some d → ∃ v, vs[i]? = some v ∧ im K B d v H
  | [], _, _, _, _, e => by simp at e
  | d :: ds, _, 0, d', ⟨v, w, e, h1, h2⟩, e' => by
    simp at e'; subst e' e; exact ⟨v, rfl, h1⟩
  | d :: ds, _, i + 1, d', ⟨v, w, e, h1, h2⟩, e' => by
    subst e
    obtain ⟨x, e1, e2⟩ := imAll_get (i := i) h2 (by simpa using e')
    exact ⟨x, by simpa using e1, e2⟩
theorem imAll_getV : ∀ {ds : List PyData} {vs : List V} {i : Nat} {v : V}, imAll K B ds vs H → vs[i]? = some v → ∃ d, ds[i]? = some d ∧ im K B d v H
  | [], _, _, _, h, e => by rw [show _ = _ from h] at e; simp at e
  | d :: ds, _, 0, v', ⟨v, w, e, h1, h2⟩, e' => by
    subst e; simp at e'; subst e'; exact ⟨d, rfl, h1⟩
  | d :: ds, _, i + 1, v', ⟨v, w, e, h1, h2⟩, e' => by
    subst e
    obtain ⟨x, e1, e2⟩ := imAll_getV (i := i) h2 (by simpa using e')
    exact ⟨x, by simpa using e1, e2⟩
theorem imAll_append : ∀ {ds es : List PyData} {vs ws : List V}, imAll K B ds vs H → imAll K B es ws H → imAll K B (ds ++ es) (vs ++ ws) H
  | [], _, _, _, h, h' => by rw [show _ = _ from h]; exact h'
  | d :: ds, es, _, ws, ⟨v, w, e, h1, h2⟩, h' => by
    subst e; exact ⟨v, w ++ ws, rfl, h1, imAll_append h2 h'⟩
theorem imAll_snoc {ds : List PyData} {vs : List V} {d : PyData} {v : V} (h : imAll K B ds vs H) (h' : im K B d v H) : imAll K B (ds ++ [d]) (vs ++ [v]) H := imAll_append h ⟨v, [], rfl, h', rfl⟩
theorem imAll_take : ∀ {ds : List PyData} {vs : List V} (n : Nat), imAll K B ds vs H → imAll K B (ds.take n) (vs.take n) H
  | _, _, 0, _ => rfl
  | [], _, n + 1, h => by rw [show _ = _ from h]; rfl
  | d :: ds, _, n + 1, ⟨v, w, e, h1, h2⟩ => by subst e; exact ⟨v, _, rfl, h1, imAll_take n h2⟩
theorem imAll_drop : ∀ {ds : List PyData} {vs : List V} (n : Nat), imAll K B ds vs H → imAll K B (ds.drop n) (vs.drop n) H
  | _, _, 0, h => h
  | [], _, n + 1, h => by rw [show _ = _ from h]; rfl
  | d :: ds, _, n + 1, ⟨v, w, e, h1, h2⟩ => by subst e; exact imAll_drop n h2
theorem imAll_bools : ∀ {bs : List Bool} {vs : List V}, imAll K B (bs.map .bool) vs H ↔ vs = bs.map .bl
  | [], vs => Iff.rfl
  | n :: ns, vs => by
    constructor
    · rintro ⟨v, w, e, h1, h2⟩
      rw [e, show v = .bl n from h1, imAll_bools.mp h2]; rfl
    · intro e
      exact ⟨.bl n, ns.map .bl, e, rfl, imAll_bools.mpr rfl⟩
mutual
theorem im_dp : ∀ (d : PyData) (v : V), im K B d v H → Dp K H v d
  | .none, _, h => by cases h; exact .non
  | .bool _, _, h => by cases h; exact .bl _
  | .int _, _, h => by cases h; exact .int _
  | .str _, _, h => by cases h; exact .str _
  | .tuple ds, _, ⟨a, vs, e, s, q⟩ => by subst e; exact .tup s (imAll_dp ds vs q)
  | .list ds, _, ⟨a, vs, e, n, s, q⟩ => by subst e; exact .lst s (imAll_dp ds vs q)
  | .dict _, _, h => h.elim
theorem imAll_dp : ∀ (ds : List PyData) (vs : List V), imAll K B ds vs H → DpAll K H vs ds
  | [], _, h => by rw [show _ = _ from h]; exact .nil
  | d :: ds, _, ⟨v, w, e, h1, h2⟩ => by subst e; exact .cons (im_dp d v h1) (imAll_dp ds w h2)
end
end
structure SD (B : Bn) (H : Hp) (σ : L2.St) (δ : List (Option PV)) : Prop where
  ok : BOk B H
  len : σ.length = δ.length
  at_ : ∀ (i : Nat) (p : PV), δ[i]? = some (some p) → Stb B p ∧ ∃ v, σ[i]? = some (some v) ∧ p v H
def wip (δ : List (Option PV)) : List Nat → List (Option PV)
  | [] => δ
  | v :: vs => (wip δ vs).set v none
section
variable {B : Bn} {H H' : Hp} {σ : L2.St} {δ : List (Option PV)} {p : PV} {v : V} {i : Nat}
theorem SD.mono (s : SD B H σ δ) (r : RB B H H') : SD B H' σ δ := ⟨s.ok.mono r, s.len, fun i p e => by
  obtain ⟨hp, v, h1, h2⟩ := s.at_ i p e
  exact ⟨hp, v, h1, hp.st r h2⟩⟩
theorem SD.set (s : SD B H σ δ) [hp : Stb B p] (h : p v H) : SD B H (σ.set i (some v)) (δ.set i (some p)) := by
  refine ⟨s.ok, by rw [List.length_set, List.length_set, s.len], fun j q e => ?_⟩
  by_cases hj : i = j
  · subst hj
    have hl : i < δ.length := by
      rcases Nat.lt_or_ge i δ.length with z | z
      · exact z
      · rw [List.getElem?_eq_none (by rw [List.length_set]; exact z)] at e; cases e
    rw [List.getElem?_set_self hl] at e
    cases e
    exact ⟨hp, v, List.getElem?_set_self (by rw [s.len]; exact hl), h⟩
  · rw [List.getElem?_set_ne hj] at e
    obtain ⟨hq, w, h1, h2⟩ := s.at_ j q e
    exact ⟨hq, w, by rw [List.getElem?_set_ne hj]; exact h1, h2⟩
theorem SD.unset (s : SD B H σ δ) {o : Option V} : SD B H (σ.set i o) (δ.set i none) := by
  refine ⟨s.ok, by rw [List.length_set, List.length_set, s.len], fun j q e => ?_⟩
  by_cases hj : i = j
  · subst hj
    have hl : i < δ.length := by
      rcases Nat.lt_or_ge i δ.length with z | z
      · exact z
      · rw [List.getElem?_eq_none (by rw [List.length_set]; exact z)] at e; cases e
    rw [List.getElem?_set_self hl] at e
    cases e
  · rw [List.getElem?_set_ne hj] at e
    obtain ⟨hq, w, h1, h2⟩ := s.at_ j q e
    exact ⟨hq, w, by rw [List.getElem?_set_ne hj]; exact h1, h2⟩
theorem SD.wipe (s : SD B H σ δ) : ∀ vs : List Nat, SD B H (wipe σ vs) (wip δ vs)
  | [] => s
  | v :: vs => (SD.wipe s vs).unset
def Weak : List (Option PV) → List (Option PV) → Prop
  | [], [] => True
  | _ :: a, none :: b => Weak a b
  | x :: a, y :: b => x = y ∧ Weak a b
  | _, _ => False
theorem Weak.len : ∀ {a b : List (Option PV)}, Weak a b → a.length = b.length
  | [], [], _ => rfl
  | _ :: a, none :: b, h => by rw [List.length_cons, List.length_cons, Weak.len (a := a) (b := b) h]
  | _ :: a, some _ :: b, h => by rw [List.length_cons, List.length_cons, Weak.len (a := a) (b := b) h.2]
  | [], _ :: _, h => h.elim
  | _ :: _, [], h => by cases h
theorem Weak.get : ∀ {a b : List (Option PV)} {i : Nat} {p : PV}, Weak a b → b[i]? = some (some p) → a[i]? = some (some p)
  | [], [], _, _, _, e => by simp at e
  | x :: a, none :: b, 0, p, _, e => by simp at e
  | x :: a, none :: b, i + 1, p, h, e => by
    have := Weak.get (a := a) (b := b) (i := i) (p := p) h (by simpa using e)
    simpa using this
  | x :: a, some y :: b, 0, p, h, e => by
    have e1 : y = p := by simpa using e
    rw [show x = some y from h.1, e1]; rfl
  | x :: a, some y :: b, i + 1, p, h, e => by
    have := Weak.get (a := a) (b := b) (i := i) (p := p) h.2 (by simpa using e)
    simpa using this
  | [], _ :: _, _, _, h, _ => h.elim
  | _ :: _, [], _, _, h, _ => by cases h
theorem SD.weak {δ' : List (Option PV)} (s : SD B H σ δ) (w : Weak δ δ') : SD B H σ δ' := ⟨s.ok, s.len.trans w.len, fun i p e => s.at_ i p (w.get e)⟩
theorem SD.get (s : SD B H σ δ) (e : δ[i]? = some (some p)) : ∃ v, σ[i]? = some (some v) ∧ p v H := (s.at_ i p e).2
end
section
variable (R : Hp → Hp → Prop) (B : Bn)
def Ev (te : TE) (δ : List (Option PV)) (H : Hp) (p : PV) : Prop := ∀ σ H1, R H H1 → SD B H1 σ δ → ∀ Q : VK, (∀ v H2, R H1 H2 → p v H2 → Q v H2) → te σ H1 Q
def EvT (tt : TT) (δ : List (Option PV)) (H : Hp) (b : Bool) : Prop := ∀ σ H1, R H H1 → SD B H1 σ δ → ∀ Q : Bool → Hp → Prop, (∀ H2, R H1 H2 → Q b H2) → tt σ H1 Q
def EvTx (tt : TT) (δ : List (Option PV)) (H : Hp) (C : Bool → Prop) : Prop := ∀ σ H1, R H H1 → SD B H1 σ δ → ∀ Q : Bool → Hp → Prop, (∀ b H2, C b → R H1 H2 → Q b H2) → tt σ H1 Q
def pAll : List PV → List V → Hp → Prop
  | [], vs, _ => vs = []
  | p :: ps, vs, H => ∃ v r, vs = v :: r ∧ p v H ∧ pAll ps r H
def EvA (ta : TA) (δ : List (Option PV)) (H : Hp) (ps : List PV) : Prop := ∀ σ H1, R H H1 → SD B H1 σ δ → ∀ Q : List V → Hp → Prop, (∀ vs H2, R H1 H2 → pAll ps vs H2 → Q vs H2) → ta σ H1 Q
def EvO (to : TO) (δ : List (Option PV)) (H : Hp) (o : Option Int) : Prop := ∀ σ H1, R H H1 → SD B H1 σ δ → ∀ Q : Option Int → Hp → Prop, (∀ H2, R H1 H2 → Q o H2) → to σ H1 Q
def RV (r : R2) (x y : V) (H : Hp) (p : PV) : Prop := ∀ Q : VK, (∀ v H2, Ex H H2 → p v H2 → Q v H2) → r x y H Q
def RC (r : List V → Hp → VK → Prop) (vs : List V) (H : Hp) (p : PV) : Prop := ∀ Q : VK, (∀ v H2, R H H2 → p v H2 → Q v H2) → r vs H Q
end
def rOr (r r' : R2) : R2 := fun x y H Q => r x y H Q ∨ r' x y H Q
def rSlOr (r r' : V → Option Int → Option Int → Hp → VK → Prop) : V → Option Int → Option Int → Hp → VK → Prop := fun x lo hi H Q => r x lo hi H Q ∨ r' x lo hi H Q
def iOr (w w' : TI) : TI := fun σ H R => w σ H R ∨ w' σ H R
def rAddS : R2 := fun x y H Q => ∃ i j : Str, x = .str i ∧ y = .str j ∧ i.length + j.length ≤ sizeLine ∧ Q (.str (i ++ j)) H
def rAddU (K : PySem.W.Frag) : R2 := rOr (rI0 fun i j => .int (i + j)) (rOr (rCatA K) (rOr rCat rAddS))
def rMulU (K : PySem.W.Frag) : R2 := rOr (rI CMul fun i j => .int (i * j)) (rOr (rRepA K) rRep)
def rEqU (K : PySem.W.Frag) : R2 := rOr (rEqD K) rEq
def rNeU (K : PySem.W.Frag) : R2 := rOr (rNeD K) rNe
def rSlU (K : PySem.W.Frag) : V → Option Int → Option Int → Hp → VK → Prop := rSlOr (rSlL K) (rSlA K)
def iSeqU (K : PySem.W.Frag) (t : TE) : TI := iOr (iList K t) (iTup K t)
section
variable {X : Cx}
theorem op_or {f : Value → Value → Sem Value} {r r' : R2} (h : OpR X f r) (h' : OpR X f r') : OpR X f (rOr r r') := fun pins s σ H x y v u Q I rx ry q => by
  rcases q with q | q
  · exact h pins s σ H x y v u Q I rx ry q
  · exact h' pins s σ H x y v u Q I rx ry q
theorem op_addU : OpR X (binaryOp .Add) (rAddU X.K) := op_or op_add (op_or op_catA (op_or op_cat op_add_str))
theorem op_mulU : OpR X (binaryOp .Mult) (rMulU X.K) := op_or op_mul (op_or op_repA op_rep)
theorem op_eqU (hu : X.A.units + 64 < cLine) : OpR X (compareOp .Eq) (rEqU X.K) := op_or (op_eqD hu) op_eq
theorem op_neU (hu : X.A.units + 64 < cLine) : OpR X (compareOp .NotEq) (rNeU X.K) := op_or (op_neD hu) op_ne
theorem sl_seqU : SlR X (rSlU X.K) := SlR.or sl_list sl_tupA
theorem pi_or {tg l : Expr} {w w' : TI} (h : PI X tg l w) (h' : PI X tg l w') : PI X tg l (iOr w w') := ⟨fun pins s σ H R I q => by
  rcases q with q | q
  · exact h.run pins s σ H R I q
  · exact h'.run pins s σ H R I q⟩
theorem pi_seqU {tg l : Expr} {t : TE} (h : PE X l t) : PI X tg l (iSeqU X.K t) := pi_or (pi_list h) (pi_tup h)
end
section
variable {R : Hp → Hp → Prop} {B : Bn} [rk : Rok B R] {K : PySem.W.Frag} {δ : List (Option PV)} {H H' : Hp} {ta tb tc te : TE} {p q w : PV} {tt tu : TT}
theorem Ev.at_ (h : Ev R B te δ H p) (r : R H H') : Ev R B te δ H' p := fun σ H2 r2 => h σ H2 (rk.tr r r2)
theorem EvT.at_ {b : Bool} (h : EvT R B tt δ H b) (r : R H H') : EvT R B tt δ H' b := fun σ H2 r2 => h σ H2 (rk.tr r r2)
theorem Ev.conv (h : Ev R B te δ H p) (c : ∀ v H1, R H H1 → p v H1 → q v H1) : Ev R B te δ H q := fun σ H1 r S Q k => h σ H1 r S Q fun v H2 r2 pv => k v H2 r2 (c v H2 (rk.tr r r2) pv)
theorem Ev.is (h : Ev R B te δ H p) (e : p = q) : Ev R B te δ H q := e ▸ h
theorem ev_var {i : Nat} (h : δ[i]? = some (some p)) : Ev R B (tVar i) δ H p := fun σ H1 r S Q k => let ⟨v, e, pv⟩ := S.get h; ⟨v, e, k v H1 (rk.rf H1) pv⟩
theorem ev_c {v : V} : Ev R B (tC v) δ H (isP v) := fun σ H1 r S Q k => k v H1 (rk.rf H1) rfl
theorem ev_int {i : Int} : Ev R B (tC (.int i)) δ H (im K B (.int i)) := ev_c
theorem ev_str {x : Str} : Ev R B (tC (.str x)) δ H (im K B (.str x)) := ev_c
theorem ev_non : Ev R B (tC .non) δ H (im K B .none) := ev_c
theorem ev_op {r : R2} [Stb B p] (ha : Ev R B ta δ H p) (hb : Ev R B tb δ H q) (hr : ∀ x y H1, R H H1 → BOk B H1 → p x H1 → q y H1 → RV r x y H1 w) : Ev R B (tOp r ta tb) δ H w :=
  fun σ H1 r1 S Q k => ha σ H1 r1 S _ fun x H2 r2 px => hb σ H2 (rk.tr r1 r2) (S.mono (rk.rb r2)) _ fun y H3 r3 qy =>
    hr x y H3 (rk.tr (rk.tr r1 r2) r3) (S.ok.mono ((rk.rb r2).trans (rk.rb r3))) (Stb.st (rk.rb r3) px) qy Q fun v H4 e4 wv => k v H4 (rk.tr (rk.tr r2 r3) (rk.ex e4)) wv
theorem atI_im {ds : List PyData} {vs : List V} {i : Int} {d : PyData} (h : imAll K B ds vs H) (e : atI ds i = some d) : ∃ v, atI vs i = some v ∧ im K B d v H := by
  unfold atI at e ⊢
  rw [imAll_len h]
  cases q : ixN ds.length i with
  | none => rw [q] at e; cases e
  | some j =>
    rw [q] at e
    obtain ⟨v, e1, e2⟩ := imAll_get h (show ds[j]? = some d from e)
    exact ⟨v, e1, e2⟩
theorem ea_nil : EvA R B tNil δ H [] := fun σ H1 r S Q k => k [] H1 (rk.rf H1) rfl
theorem ea_cons {tr : TA} {ps : List PV} [Stb B p] (h : Ev R B ta δ H p) (hr : EvA R B tr δ H ps) : EvA R B (tCons ta tr) δ H (p :: ps) := fun σ H1 r S Q k =>
  h σ H1 r S _ fun v H2 r2 pv => hr σ H2 (rk.tr r r2) (S.mono (rk.rb r2)) _ fun vs H3 r3 pr => k (v :: vs) H3 (rk.tr r2 r3) ⟨v, vs, rfl, Stb.st (rk.rb r3) pv, pr⟩
theorem ev_cb {r : List V → Hp → VK → Prop} {ta : TA} {ps : List PV} (h : EvA R B ta δ H ps) (hr : ∀ vs H1, R H H1 → BOk B H1 → pAll ps vs H1 → RC R r vs H1 w) : Ev R B (tCB r ta) δ H w := fun σ H1 r1 S Q k =>
  h σ H1 r1 S _ fun vs H2 r2 pr => hr vs H2 (rk.tr r1 r2) (S.ok.mono (rk.rb r2)) pr Q fun v H3 r3 wv => k v H3 (rk.tr r2 r3) wv
theorem imAll_of_pAll : ∀ {ds : List PyData} {vs : List V}, pAll (ds.map (im K B)) vs H → imAll K B ds vs H
  | [], _, h => h
  | d :: ds, _, ⟨v, r, e, h1, h2⟩ => ⟨v, r, e, h1, imAll_of_pAll h2⟩
theorem not_ban {p : Addr} (o : BOk B H) (h : H p = none) : ¬ B p := fun b => o p b h
theorem ev_tup {ta : TA} {ds : List PyData} (h : EvA R B ta δ H (ds.map (im K B))) (hl : ds.length ≤ sizeLine) : Ev R B (tTup ta) δ H (im K B (.tuple ds)) := fun σ H1 r1 S Q k =>
  h σ H1 r1 S _ fun vs H2 r2 pr => by
    have hv := imAll_of_pAll pr
    refine ⟨by rw [imAll_len hv]; exact hl, fun a ha => k _ _ (rk.tr r2 (rk.ex (Ex.new ha))) ⟨a, vs, rfl, sqT_of upd_same, imAll_st (RB.of_ex (Ex.new ha)) _ _ hv⟩⟩
def rLenQ (K : PySem.W.Frag) : List V → Hp → VK → Prop := fun xs H Q => ∃ p ys, xs = [.ref p] ∧ (SqL K H p ys ∨ SqT K H p ys) ∧ Q (.int ys.length) H
def rTupQ (K : PySem.W.Frag) : List V → Hp → VK → Prop := fun xs H Q => ∃ p ys, xs = [.ref p] ∧ ((SqL K H p ys ∧ ∀ l, H l = none → Q (.ref l) (upd H l (.tup ys))) ∨ (SqT K H p ys ∧ Q (.ref p) H))
def rListQ (K : PySem.W.Frag) : List V → Hp → VK → Prop := fun xs H Q => ∃ p ys, xs = [.ref p] ∧ (SqL K H p ys ∨ SqT K H p ys) ∧ ∀ l, H l = none → Q (.ref l) (upd H l (.lst ys))
theorem imAll_rep {ds : List PyData} {vs : List V} (h : imAll K B ds vs H) : ∀ n : Nat, imAll K B (List.replicate n ds).flatten (List.replicate n vs).flatten H
  | 0 => rfl
  | n + 1 => by
    rw [List.replicate_succ, List.replicate_succ, List.flatten_cons, List.flatten_cons]
    exact imAll_append h (imAll_rep h n)
theorem et_test {b : Bool} (h : Ev R B te δ H (im K B (.bool b))) : EvT R B (tTest te) δ H b := fun σ H1 r S Q k => h σ H1 r S _ fun v H2 r2 e => ⟨b, e, k H2 r2⟩
theorem et_B {b : Bool} (h : Ev R B te δ H (im K B (.bool b))) : EvT R B (tB te) δ H b := fun σ H1 r S Q k => h σ H1 r S _ fun v H2 r2 e => ⟨b, e, k H2 r2⟩
theorem et_not {b : Bool} (h : EvT R B tt δ H b) : EvT R B (tNot tt) δ H (!b) := fun σ H1 r S Q k => h σ H1 r S _ fun H2 r2 => k H2 r2
theorem et_and {a b : Bool} (h1 : EvT R B tt δ H a) (h2 : a = true → EvT R B tu δ H b) : EvT R B (tAnd tt tu) δ H (a && b) := fun σ H1 r S Q k => h1 σ H1 r S _ fun H2 r2 => by
  cases a with
  | true => exact h2 rfl σ H2 (rk.tr r r2) (S.mono (rk.rb r2)) Q fun H3 r3 => k H3 (rk.tr r2 r3)
  | false => exact k H2 r2
theorem et_or {a b : Bool} (h1 : EvT R B tt δ H a) (h2 : a = false → EvT R B tu δ H b) : EvT R B (tOr tt tu) δ H (a || b) := fun σ H1 r S Q k => h1 σ H1 r S _ fun H2 r2 => by
  cases a with
  | true => exact k H2 r2
  | false => exact h2 rfl σ H2 (rk.tr r r2) (S.mono (rk.rb r2)) Q fun H3 r3 => k H3 (rk.tr r2 r3)
theorem EvT.is {a b : Bool} (h : EvT R B tt δ H a) (e : a = b) : EvT R B tt δ H b := e ▸ h
theorem ev_and {a b : Bool} (h1 : Ev R B ta δ H (im K B (.bool a))) (h2 : a = true → Ev R B tb δ H (im K B (.bool b))) : Ev R B (tAndV ta tb) δ H (im K B (.bool (a && b))) := fun σ H1 r S Q k => h1 σ H1 r S _ fun v H2 r2 e => ⟨a, e, by
  cases a with
  | true => exact h2 rfl σ H2 (rk.tr r r2) (S.mono (rk.rb r2)) Q fun v H3 r3 e => k v H3 (rk.tr r2 r3) e
  | false => exact k _ H2 r2 rfl⟩
theorem ev_not {a : Bool} (h1 : Ev R B ta δ H (im K B (.bool a))) : Ev R B (tNotV ta) δ H (im K B (.bool (!a))) := fun σ H1 r S Q k => h1 σ H1 r S _ fun v H2 r2 e => ⟨a, e, k _ H2 r2 rfl⟩
theorem ev_if {b : Bool} (h : EvT R B tt δ H b) (h1 : b = true → Ev R B ta δ H p) (h2 : b = false → Ev R B tb δ H p) : Ev R B (tIf tt ta tb) δ H p := fun σ H1 r S Q k => h σ H1 r S _ fun H2 r2 => by
  cases b with
  | true => exact h1 rfl σ H2 (rk.tr r r2) (S.mono (rk.rb r2)) Q fun v H3 r3 pv => k v H3 (rk.tr r2 r3) pv
  | false => exact h2 rfl σ H2 (rk.tr r r2) (S.mono (rk.rb r2)) Q fun v H3 r3 pv => k v H3 (rk.tr r2 r3) pv
end
section
variable {R : Hp → Hp → Prop} {B : Bn} [rk : Rok B R] {K : PySem.W.Frag} {δ : List (Option PV)} {H H' : Hp} {ta tb tc te : TE} {p q w : PV} {tt tu : TT} {D : Ends} {σ : L2.St} {t u : TS} {i j l : Nat}
end
def pureSp {α : Type} (K : PySem.W.Frag) (args : α → List PyData) (pre : α → Prop) (res : α → PyData) : Sp := fun vs H Q _ =>
  ∃ (B : Bn) (a : α), BOk B H ∧ imAll K B (args a) vs H ∧ pre a ∧ ∀ v H', Ex H H' → im K B (res a) v H' → Q v H'
theorem pureSp.len {α : Type} {K : PySem.W.Frag} {args : α → List PyData} {pre : α → Prop} {res : α → PyData} {n : Nat} (h : ∀ a, (args a).length = n) {vs : List V} {H : Hp} {Q : VK} {E : XK} (q : pureSp K args pre res vs H Q E) : vs.length = n := by
  obtain ⟨B, a, _, h1, _⟩ := q
  rw [imAll_len h1]; exact h a
theorem SD.start {K : PySem.W.Frag} {B : Bn} {H : Hp} {N : List Str} {ds : List PyData} {vs : List V} (o : BOk B H) (h : imAll K B ds vs H) :
    SD B H (start N vs) (ds.map (fun d => some (im K B d)) ++ List.replicate (N.length - ds.length) none) := by
  have hl := imAll_len h
  refine ⟨o, ?_, fun i p e => ?_⟩
  · unfold L2.start
    rw [List.length_append, List.length_append, List.length_map, List.length_map, List.length_replicate, List.length_replicate, hl]
  · by_cases hi : i < ds.length
    · rw [List.getElem?_append_left (by rw [List.length_map]; exact hi), List.getElem?_map, List.getElem?_eq_getElem hi] at e
      have e2 : im K B ds[i] = p := by simpa using e
      obtain ⟨v, h1, h2⟩ := imAll_get h (List.getElem?_eq_getElem hi)
      subst e2
      refine ⟨inferInstance, v, ?_, h2⟩
      unfold L2.start
      rw [List.getElem?_append_left (by rw [List.length_map, hl]; exact hi), List.getElem?_map, h1]
      rfl
    · rw [List.getElem?_append_right (by rw [List.length_map]; omega), List.getElem?_replicate] at e
      split at e <;> simp at e
section
variable {R : Hp → Hp → Prop} {B : Bn} [rk : Rok B R] {K : PySem.W.Frag} {δ : List (Option PV)} {H H' : Hp}
theorem ev_call {α : Type} {args : α → List PyData} {pre : α → Prop} {res : α → PyData} {E : XK} {ta : TA} (a : α) (h : EvA R B ta δ H ((args a).map (im K B))) (hp : pre a) :
    Ev R B (tCall (pureSp K args pre res) [] E ta) δ H (im K B (res a)) := fun σ H1 r S Q k =>
  h σ H1 r S _ fun vs H2 r2 pr => by
    show pureSp K args pre res (vs ++ []) H2 Q E
    rw [List.append_nil]
    exact ⟨B, a, S.ok.mono (rk.rb r2), imAll_of_pAll pr, hp, fun v H3 e3 hv => k v H3 (rk.tr r2 (rk.ex e3)) hv⟩
end
abbrev tI (ns : List Int) : PyData := .tuple (ns.map .int)
abbrev wd (b r : List Int) : PyData := .tuple [tI b, tI r]
def letterAt (b r : List Int) (k : Int) : Int := if k < b.length then b.getD k.toNat 0 else r.getD ((k - b.length) % r.length).toNat 0
mutual
def plain : PyData → Bool
  | .none => true
  | .bool _ => true
  | .int _ => true
  | .str _ => true
  | .tuple ds => plainAll ds
  | .list _ => false
  | .dict _ => false
def plainAll : List PyData → Bool
  | [] => true
  | d :: ds => plain d && plainAll ds
end
structure TK (H H' : Hp) : Prop where
  tup : ∀ a xs, H a = some (.tup xs) → H' a = some (.tup xs)
  frz : ∀ a o u, H a = some (.frz o u) → H' a = some (.frz o u)
theorem RB.tk {B : Bn} {H H' : Hp} (r : RB B H H') : TK H H' := ⟨r.tup, r.frz⟩
theorem TK.sqT {K : PySem.W.Frag} {H H' : Hp} {a : Addr} {xs : List V} (r : TK H H') (h : SqT K H a xs) : SqT K H' a xs := by
  rcases h with (h | ⟨o, h⟩) | h
  · exact .inl (.inl (r.tup _ _ h))
  · exact .inl (.inr ⟨o, r.frz _ _ _ h⟩)
  · exact .inr h
theorem TK.upd {H : Hp} {a : Addr} {xs : List V} {o : HO} (h : H a = some (.lst xs)) : TK H (upd H a o) :=
  ⟨fun b ys e => by rw [upd_ne (ne_of e h (by intro z; cases z))]; exact e, fun b ob u e => by rw [upd_ne (ne_of e h (by intro z; cases z))]; exact e⟩
section
variable {K : PySem.W.Frag} {B B' : Bn} {H H' : Hp}
end
class Rmk (R : Hp → Hp → Prop) : Prop where
  new : ∀ {H H' p o}, R H H' → H p = none → R H (upd H' p o)
instance : Rmk Ex := ⟨fun r h => r.mut h⟩
instance {B : Bn} : Rmk (RB B) := ⟨fun {H H' p o} r h => ⟨fun a u n e => by rw [upd_ne (ne_of_none e h)]; exact r.keep a u n e, fun a u e => by rw [upd_ne (ne_of_none e h)]; exact r.tup a u e,
  fun a ob u e => by rw [upd_ne (ne_of_none e h)]; exact r.frz a ob u e, fun a b n => by
    by_cases q : a = p
    · subst q; exact absurd h n
    · rw [upd_ne q]; exact r.ban a b n⟩⟩
def cut {α : Type} (xs : List α) (lo hi : Option Int) : List α := (xs.drop (HT.sIx xs.length 0 lo)).take (HT.sIx xs.length xs.length hi - HT.sIx xs.length 0 lo)
theorem cutV_im {K : PySem.W.Frag} {B : Bn} {H : Hp} {ds : List PyData} {vs : List V} {lo hi : Option Int} (h : imAll K B ds vs H) : imAll K B (cut ds lo hi) (cutV vs lo hi) H := by
  unfold cut cutV
  rw [imAll_len h]
  exact imAll_take _ (imAll_drop _ h)
section
variable {R : Hp → Hp → Prop} {B : Bn} [rk : Rok B R] {K : PySem.W.Frag} {δ : List (Option PV)} {H : Hp} {te : TE} {tl th : TO} {lo hi : Option Int}
theorem eo_none : EvO R B tNoPart δ H none := fun σ H1 r S Q k => k H1 (rk.rf H1)
theorem eo_some {i : Int} (h : Ev R B te δ H (im K B (.int i))) : EvO R B (tPart te) δ H (some i) := fun σ H1 r S Q k => h σ H1 r S _ fun v H2 r2 e => ⟨i, e, k H2 r2⟩
end
theorem cut_upto {α : Type} {xs : List α} {n : Nat} : cut xs none (some (n : Int)) = xs.take n := by
  unfold cut
  rw [HT.sIx_none, HT.sIx_nat, List.drop_zero, Nat.sub_zero]
  rcases Nat.le_total n xs.length with h | h
  · rw [Nat.min_eq_left h]
  · rw [Nat.min_eq_right h, List.take_length, List.take_of_length_le h]
theorem cut_from {α : Type} {xs : List α} {n : Nat} : cut xs (some (n : Int)) none = xs.drop n := by
  unfold cut
  rw [HT.sIx_none, HT.sIx_nat]
  rcases Nat.le_total n xs.length with h | h
  · rw [Nat.min_eq_left h, List.take_of_length_le (by rw [List.length_drop]; omega)]
  · rw [Nat.min_eq_right h, Nat.sub_self, List.take_zero, List.drop_of_length_le h]
section
variable (R : Hp → Hp → Prop) (B : Bn)
def Src (wi : TI) (δ : List (Option PV)) (H : Hp) (n : Nat) (Y : Nat → PV) : Prop := ∀ σ H1, R H H1 → SD B H1 σ δ → ∀ Q : It → Hp → Prop,
  (∀ (J : It) (G : Hp → Prop) (H2 : Hp), R H1 H2 → Walk J n G (fun i Ha x Hb => Ex Ha Hb ∧ Y i x Hb) → (∀ H3, RB B H2 H3 → G H3) → Q J H2) → wi σ H1 Q
end
section
variable {R : Hp → Hp → Prop} {B : Bn} [rk : Rok B R] {K : PySem.W.Frag} {δ : List (Option PV)} {H : Hp} {ta tb : TE}
theorem getD_im {ds : List PyData} {vs : List V} {i : Nat} {v : V} (h : imAll K B ds vs H) (e : vs[i]? = some v) : im K B (ds.getD i .none) v H := by
  obtain ⟨d, e1, e2⟩ := imAll_getV h e
  rw [List.getD_eq_getElem?_getD, e1]
  exact e2
theorem src_range1 {n : Int} (h : Ev R B ta δ H (im K B (.int n))) (h1 : -(2 ^ 62) ≤ n) (h2 : n < 2 ^ 62) : Src R B (iRng1 (tCons ta tNil)) δ H n.toNat (fun i => im K B (.int i)) := fun σ H1 r S Q k =>
  h σ H1 r S _ fun v H2 r2 e => ⟨n, by rw [show v = _ from e], h1, h2, k _ (fun _ => True) H2 r2 (walk_range.mono (fun _ z => z) fun i Ha x Hb _ _ y => ⟨by rw [y.1]; exact Ex.refl _, by rw [y.2]; show V.int (0 + (i : Int)) = V.int _; rw [Int.zero_add]⟩) fun _ _ => trivial⟩
end
section
variable {R : Hp → Hp → Prop} {B : Bn} [rk : Rok B R] [rm : Rmk R] {K : PySem.W.Frag} {δ : List (Option PV)} {H : Hp}
def newL (K : PySem.W.Frag) (B : Bn) (H : Hp) (ds : List PyData) : PV := fun v Hc => ∃ a vs, v = .ref a ∧ H a = none ∧ ¬ B a ∧ Hc a = some (.lst vs) ∧ imAll K B ds vs Hc
instance {H : Hp} {ds : List PyData} : Stb B (newL K B H ds) := ⟨fun r ⟨a, vs, e, n, nb, h, q⟩ => ⟨a, vs, e, n, nb, r.keep _ _ nb h, imAll_st r _ _ q⟩⟩
theorem newL.im {H0 Hc : Hp} {ds : List PyData} {v : V} (h : newL K B H0 ds v Hc) : im K B (.list ds) v Hc := by
  obtain ⟨a, vs, e, n, nb, h, q⟩ := h
  exact ⟨a, vs, e, nb, sqL_of h, q⟩
theorem RB.fresh {H H' : Hp} {a : Addr} (r : RB B H H') (n : H' a = none) : H a = none := by
  cases e : H a with
  | none => rfl
  | some o =>
    rcases Classical.em (B a) with b | b
    · exact absurd n (r.ban a b (by rw [e]; exact fun z => nomatch z))
    · rw [r.keep a o b e] at n; cases n
theorem ev_lstN {ta : TA} {ds : List PyData} (h : EvA R B ta δ H (ds.map (EL.im K B))) (hl : ds.length ≤ sizeLine) : Ev R B (tLst ta) δ H (newL K B H ds) := fun σ H1 r1 S Q k =>
  h σ H1 r1 S _ fun vs H2 r2 pr => by
    have hv := imAll_of_pAll pr
    refine ⟨by rw [imAll_len hv]; exact hl, fun a ha => k _ _ (rk.tr r2 (rk.ex (Ex.new ha))) ⟨a, vs, rfl, RB.fresh (rk.rb (rk.tr r1 r2)) ha, not_ban (S.ok.mono (rk.rb r2)) ha, upd_same, imAll_st (RB.of_ex (Ex.new ha)) _ _ hv⟩⟩
end
abbrev big61 : Int := 2305843009213693951
structure HandOk (h l : Addr) (H : Hp) : Prop where
  ne : h ≠ l
  top : ∃ seed : Int, H h = some (.lst [.ref l, .int seed]) ∧ 0 ≤ seed ∧ seed < big61
  cells : ∃ cs : List Int, H l = some (.lst (cs.map .int)) ∧ (∀ c ∈ cs, 0 ≤ c) ∧ cs.length ≤ 63
def hB (h l : Addr) : Bn := fun a => a = h ∨ a = l
structure Rh (h l : Addr) (H H' : Hp) : Prop where
  rb : RB (hB h l) H H'
  ok : HandOk h l H → HandOk h l H'
class Has (B : Bn) (h l : Addr) : Prop where
  h1 : B h
  h2 : B l
instance {h l : Addr} : Has (hB h l) h l := ⟨.inl rfl, .inr rfl⟩
theorem HandOk.ex {h l : Addr} {H H' : Hp} (e : Ex H H') (o : HandOk h l H) : HandOk h l H' := by
  obtain ⟨n, ⟨s, e1, b1⟩, ⟨cs, e2, b2⟩⟩ := o
  exact ⟨n, ⟨s, e _ _ e1, b1⟩, ⟨cs, e _ _ e2, b2⟩⟩
instance {B : Bn} {h l : Addr} [hs : Has B h l] : Rok B (Rh h l) where
  rf := fun H => ⟨RB.refl H, id⟩
  tr := fun a b => ⟨a.rb.trans b.rb, fun o => b.ok (a.ok o)⟩
  ex := fun e => ⟨RB.of_ex e, fun o => o.ex e⟩
  rb := fun r => r.rb.sub fun a z => by
    rcases z with rfl | rfl
    · exact hs.h1
    · exact hs.h2
theorem HandOk.upd {h l p : Addr} {H : Hp} {o : HO} (k : HandOk h l H) (n1 : h ≠ p) (n2 : l ≠ p) : HandOk h l (upd H p o) := by
  obtain ⟨n, ⟨s, e1, b1⟩, ⟨cs, e2, b2⟩⟩ := k
  exact ⟨n, ⟨s, by rw [upd_ne n1]; exact e1, b1⟩, ⟨cs, by rw [upd_ne n2]; exact e2, b2⟩⟩
theorem HandOk.at1 {h l : Addr} {H : Hp} (k : HandOk h l H) : H h ≠ none := by
  obtain ⟨n, ⟨s, e1, b1⟩, _⟩ := k
  rw [e1]; exact fun z => nomatch z
theorem HandOk.at2 {h l : Addr} {H : Hp} (k : HandOk h l H) : H l ≠ none := by
  obtain ⟨n, _, ⟨cs, e2, b2⟩⟩ := k
  rw [e2]; exact fun z => nomatch z
instance {h l : Addr} : Rmk (Rh h l) := ⟨fun {H H' p o} r n => ⟨Rmk.new r.rb n, fun k => (r.ok k).upd (fun e => k.at1 (e ▸ n)) fun e => k.at2 (e ▸ n)⟩⟩
def intP (C : Int → Prop) : PV := fun v _ => ∃ i, C i ∧ v = .int i
instance {B : Bn} {C : Int → Prop} : Stb B (intP C) := ⟨fun _ h => h⟩
section
variable {B : Bn} {h l : Addr} [hs : Has B h l] {K : PySem.W.Frag} {δ : List (Option PV)} {H : Hp} {ta tb : TE} {E : XK}
end
section
variable {R : Hp → Hp → Prop} {B : Bn} [rk : Rok B R] {K : PySem.W.Frag} {δ : List (Option PV)} {H : Hp} {ta tb : TE} {C D : Int → Prop}
end
section
variable {R : Hp → Hp → Prop} {B : Bn} [rk : Rok B R] {K : PySem.W.Frag} {δ : List (Option PV)} {H : Hp} {ta tb to ti te : TE} {D : Ends} {σ : L2.St} {p : PV}
theorem Ev.lst {a : Addr} {vs : List V} {ds : List PyData} (ha : Ev Ex (fun _ => False) ta δ H (isP (.ref a))) (hl : H a = some (.lst vs)) (hv : imAll K (fun _ => False) ds vs H) : Ev Ex (fun _ => False) ta δ H (im K (fun _ => False) (.list ds)) :=
  ha.conv fun v H1 r1 e => ⟨a, vs, e, fun z => z, sqL_of (r1 _ _ hl), imAll_st (RB.of_ex r1) _ _ hv⟩
end
section
variable {B : Bn} {K : PySem.W.Frag} {δ : List (Option PV)} {H : Hp} {ta : TE}
end
theorem canLayAll_ints : ∀ ns : List Int, PyData.canLayAll0 (ns.map .int) = true
  | [] => by rfl
  | n :: ns => by
    have := canLayAll_ints ns
    simp only [List.map_cons, PyData.canLayAll0, PyData.canLay0, this, Bool.and_self]
theorem depthAll_ints : ∀ ns : List Int, PyData.depthAll (ns.map .int) ≤ 1
  | [] => by simp [PyData.depthAll]
  | n :: ns => by
    have := depthAll_ints ns
    simp only [List.map_cons, PyData.depthAll, PyData.depth]
    omega
theorem shaped_ints (ns : List Int) : SeqAt.shaped (.list (ns.map .int)) = true := by
  unfold SeqAt.shaped
  have h1 := canLayAll_ints ns
  have h2 := depthAll_ints ns
  simp only [PyData.canLay0, h1, PyData.depth, Bool.true_and]
  exact decide_eq_true (by omega)
structure FnG (P : Program) (w : World) (K : PySem.W.Frag) (mg : Str → Option Value) (bs : Heap) (CX : CXT) (k : Nat) (f : Addr) (fd : FuncData) (ps : List Str) (sp : Sp) : Prop where
  len : ∀ vs H Q E, sp vs H Q E → vs.length = ps.length
  run : ∀ (A : Around) (o : List Env) (s : Shared) (H : Hp) (ar : Args) (us : List Value) (vs : List V) (Q : VK) (E : XK),
    A.guards = some [] → Room k A → Env0 P w K mg bs A o s H → BindsTo s fd ar (ps.zip us) → Vals vs us → sp vs H Q E →
    codeAny (model P w) A (.call (.ref f) ar) (CR CX o P w H s Q E) s
theorem FnG.of {P : Program} {w : World} {K : PySem.W.Frag} {mg : Str → Option Value} {bs : Heap} {CX : CXT} {k : Nat} {f : Addr} {fd : FuncData} {ps : List Str} {sp : Sp}
    (F : FnOk P w K mg bs CX k f fd ps sp) : FnG P w K mg bs CX k f fd ps sp := ⟨F.len, fun A o s H ar us vs Q E _ => F.run A o s H ar us vs Q E⟩
section
variable {P : Program} {w : World} {K : PySem.W.Frag} {mg : Str → Option Value} {bs : Heap} {CX : CXT} {x qu : Str} {pa : Arguments} {bo : List Stmt} {sc : Scope} {dv : List V} {kw : List (Str × V)} {f : Addr} {fd : FuncData}
theorem okG {N ps : List Str} {k : Nat} {sp : Sp} (F : FunD K x qu pa bo sc dv kw f fd) (S : FnScope N ps sc)
    (hlen : ∀ vs H Q E, sp vs H Q E → vs.length = ps.length)
    (hb : ∀ (cv : Value) (A : Around) (o : List Env) (s : Shared) (H : Hp) (vs : List V) (Q : VK) (E : XK), A.guards = some [] →
      Room k (A.deeper (envOfC qu sc s.heap.objs.size f cv)) → sp vs H Q E →
      ∃ t, PSs (cxOf CX P w K mg bs N qu sc f cv A o s H E) bo t ∧ t ⟨fun _ H' => Q .non H', Q, fun _ _ => False, fun _ _ => False⟩ (start N vs) H) :
    FnG P w K mg bs CX (k + 1) f fd ps sp := by
  obtain ⟨oc, od, dV, kV, doc, pm, an, cv, ct, osl, rfl, hlk, hcd, _, _⟩ := F.ex
  refine ⟨hlen, fun A o s H ar us vs Q E gd rm en bd rv hsp => ?_⟩
  have hKin : K.In s.heap := en.mod.kin.keeps fun c z q => (en.bs c z q).1
  have hLim : s.heap.NoLimit := en.mod.nolimit.keeps fun c z q => (en.bs c z q).1
  have hkd : ∀ y ∈ ps.zip us, sc.names.lookup y.1 = some .local ∨
      (sc.names.lookup y.1 = some .cell ∧ ((cellsFrom (s.heap.objs.size + 1) sc.names []).lookup y.1).isSome = true) := by
    rintro ⟨nm, vl⟩ hy
    rcases S.par nm (List.of_mem_zip hy).1 with z | z
    · left; exact z
    · right; exact ⟨z, PySem.W.cellsFrom_some _ _ _ (.inl z)⟩
  refine codeAny_call_function rm.depth (hKin _ _ hlk) rfl S.co S.gen rfl (PySem.W.codeRec_of hKin hcd) (bd _ _ _ _ ?_)
  refine wpAny_newFunctionEnv_cells S.kind hkd fun ev hev s2 xx => ?_
  subst hev
  refine ⟨hLim.keeps xx.toInCall.keep, codeAny_func ?_⟩
  obtain ⟨t, ht, hq⟩ := hb cv A o s H vs Q E gd (rm.deeper _) hsp
  have II : Inv (cxOf CX P w K mg bs N qu sc f cv A o s H E) [] (start N vs) H s2 := inv_start S rm.hd en (hlen _ _ _ _ hsp) rv xx
  refine wpAny_mono (ht.run [] s2 (start N vs) H _ II hq) (fun fl s3 hs => ?_) fun e s3 hs => hs
  cases fl with
  | ret u => obtain ⟨v, σ', H', J, r2, z⟩ := hs; exact ⟨v, H', J.os, J.bare, J.base, J.hok, r2, z⟩
  | next => obtain ⟨σ', H', J, z⟩ := hs; exact ⟨.non, H', J.os, J.bare, J.base, J.hok, rfl, z⟩
  | brk => obtain ⟨_, _, _, z⟩ := hs; cases z
  | cont => obtain ⟨_, _, _, z⟩ := hs; cases z
end
section
variable {X : Cx} {CX : CXT} {k : Nat} {f : Addr} {fd : FuncData} {ps : List Str} {sp : Sp} {E : XK} {x : Str} {p pos : Pos} {e : Expr} {es : List Expr} {t : TA}
theorem pe_callG (F : FnG X.prog X.w X.K X.mg X.base CX k f fd ps sp) (gd : X.A.guards = some []) (rm : Room k X.A) (hg : Gl X x) (hm : X.mg x = some (.ref f)) (hk : PySem.W.keepIn X.K (.ref f) = true)
    (bd : Binds X.K fd ps []) (hx : Passes CX X E) (ha : PA X (e :: es) t) (d1 : (x == ("__debug__" : Str)) = false := by decide)
    (d2 : starEach (e :: es) X.env = (false, eval e X.env) :: starEach es X.env := by rfl) (d3 : (backTo pos (starEach es X.env)).any (·.1) = false := by rfl) :
    PE X (.Call (.Name x p) (e :: es) [] pos) (tCall sp [] E t) := by
  refine ⟨fun pins s σ H Q I h => wpAny_Call_Name_kw (ld_glob I hg hm ?_ d1)⟩
  refine PySem.W.callWith_K (h₀ := X.base) I.ok.mod.kin hk (thn (ha.run pos pins s σ H _ I h) ?_) d2 d3
  rintro us s1 ⟨vs, H1, I1, rv, q⟩
  refine ⟨I1.kIn, ?_⟩
  have q : sp (vs ++ []) H1 Q E := q
  rw [List.append_nil] at q
  have hl : (us ++ []).length = ps.length := by rw [List.append_nil, ← rv.length]; exact F.len _ _ _ _ q
  have bb := bd s1 us I1.kIn hl
  rw [List.append_nil] at bb
  refine wpAny_call (codeAny_mono (F.run X.A X.stack s1 H1 ⟨us, []⟩ us vs Q E gd rm I1.env0 bb rv q) fun r s2 hq => ?_)
  match r, hq with
  | .error er, hq => exact hx pins σ H1 s1 er s2 I1 hq
  | .ok (.ret u), hq => exact I1.after hq
def rReprD (K : PySem.W.Frag) : List V → Hp → VK → Prop := fun xs H Q => ∃ v d, xs = [v] ∧ Dp K H v d ∧ d.showable = true ∧ d.hasDict = false ∧ d.depth ≤ 64 ∧ d.shown.length ≤ sizeLine ∧ Q (.str d.shown) H
theorem call_reprD (gd : X.A.guards = some []) (hu : X.A.units + 66 < cLine) : CallR X (.builtin "repr") (rReprD X.K) := by
  intro pins s σ H xs us Q I r h
  obtain ⟨v, d, rfl, hd, sh, nd, dp, sz, q⟩ := h
  obtain ⟨u, rfl, ru⟩ := vals1 r
  obtain ⟨as, rd⟩ := Dp.reads I d v u hd ru
  have fin : ∀ (h' : Heap) (t : Tok) (tk : Nat), (∀ b o, s.heap.get? b = some o → h'.get? b = some o) → EP X pins σ Q (.str d.shown t) { s with heap := h', toks := tk } := fun h' t tk hk => ⟨.str d.shown, H, I.kept hk, ⟨t, rfl⟩, q⟩
  cases hd with
  | lst a b => cases ru; exact repr_of_reads' rd sh (PyData.noDict_hsm nd) gd (by omega) (fun _ _ z => z) fin sz
  | tup a b => cases ru; exact repr_of_reads' rd sh (PyData.noDict_hsm nd) gd (by omega) (fun _ _ z => z) fin sz
  | non => cases ru; rw [PyData.shown_none] at fin; exact PySem.P.repr_of_none (fin s.heap _ _ fun _ _ z => z)
  | bl b => cases ru; rw [PyData.shown_bool] at fin; exact PySem.P.repr_of_bool (by cases b <;> exact fin s.heap _ _ fun _ _ z => z)
  | int i => obtain ⟨t, rfl⟩ := ru; rw [PyData.shown_int] at fin; exact PySem.P.repr_of_int (by simpa [PyData.showable] using sh) (fin s.heap _ _ fun _ _ z => z)
  | str z => obtain ⟨t, rfl⟩ := ru; rw [PyData.shown_str] at fin sz; exact PySem.P.repr_of_str (fin s.heap _ _ fun _ _ z => z) sz
end
section
variable {P : Program} {w : World} {K : PySem.W.Frag} {mg mb : Str → Option Value} {k : Nat} {fa a : Addr} {fd : FuncData} {x : Str} {sp : Sp} {s1 : Shared} {vs : List Value} {ns : List Int}
theorem callG_core (hr : Room k callerA) (F : ∀ bs : Heap, K.In bs → bs.Ns mainGlobals mg → FnG P w K mg bs CX0 k fa fd [x] sp) (hbd : ∀ (s : Shared) (u : Value), BindsTo s fd ⟨[u], []⟩ [(x, u)])
    (KX : K.In s1.heap) (n1 : s1.heap.Ns mainGlobals mg) (n2 : s1.heap.Ns builtinsNs mb) (n3 : ∀ x : Str, x ≠ "__name__" → mb x = bootBuiltins x) (n4 : s1.heap.NoLimit) (n5 : s1.gens = #[])
    (ha : s1.heap.get? a = some { cls := .type "list", data := .seq vs.toArray }) (H : Hp) (hO : Only H) (hok : HOk P w H s1.heap) (hA : ∀ b, H b ≠ none → b = a) (hK : H a ≠ none → K.lookup a = none)
    (hsp : sp [.ref a] H (fun v _ => v = .bl true) fun _ _ _ => False) :
    codeAny (model P w) callerA (.call (.ref fa) ⟨[.ref a], []⟩) (fun r s' => r = .ok (.ret (.bool true)) ∧ OldK s1.heap s'.heap ∧ s'.os = s1.os ∧ AllBare s'.gens) s1 := by
  have noD : ∀ (b : Addr) (o : Obj) (es : Array DictEntry) (ep : Nat), s1.heap.get? b = some o → o.data = .dict es ep → H b = none := by
    intro b o es ep e d
    by_cases z : H b = none
    · exact z
    · rw [hA b z, ha] at e
      cases e
      exact nomatch (show Data.seq vs.toArray _ = Data.dict es ep from d)
  have nsB : ∀ (b : Addr) (m : Str → Option Value), s1.heap.Ns b m → (hidT s1.heap H).Ns b m := by
    rintro b m ⟨o, es, ep, e, d, rest⟩
    exact ⟨o, es, ep, hidT_get e (noD b o es ep e d), d, rest⟩
  have inB : K.In (hidT s1.heap H) := by
    intro b o e
    refine hidT_get (KX b o e) ?_
    by_cases z : H b = none
    · exact z
    · have eb := hA b z
      rw [eb] at z e
      rw [hK z] at e
      cases e
  obtain ⟨mc, l1, l2⟩ := n4
  have md : Mod K mg (hidT s1.heap H) := ⟨inB, nsB _ _ n1, ⟨mb, nsB _ _ n2, n3⟩, ⟨mc, nsB _ _ l1, l2⟩⟩
  have en : Env0 P w K mg (hidT s1.heap H) callerA [] s1 H :=
    ⟨rfl, md, fun b o e => of_hidT e, Nat.le_of_eq (hidT_size _ _), trivial, fun b z => (nomatch (show b ∈ ([] : List Addr) from z)), hok, AllBare.of_eq n5⟩
  refine codeAny_mono ((F _ inB (nsB _ _ n1)).run callerA [] s1 H ⟨[.ref a], []⟩ [.ref a] [.ref a] _ _ rfl hr en (hbd s1 (.ref a)) (.cons rfl .nil) hsp) fun r s' h => ?_
  match r, h with
  | .error e, h => exact h.elim
  | .ok (.ret u), h =>
    obtain ⟨v, H', os, bare, un, hok2, r2, q⟩ := h
    cases (show v = .bl true from q)
    cases (show u = Value.bool true from r2)
    refine ⟨rfl, OldK.of_keep fun b o e => ?_, os, bare⟩
    rcases hO b with z | ⟨ob, xs, z⟩
    · exact un.keep b o e z (fun q => nomatch (show b ∈ ([] : List Addr) from q)) (fun q => nomatch q)
    · obtain ⟨e1, _⟩ := hok b _ z
      obtain ⟨e2, _⟩ := hok2 b _ (un.frzs b ob _ z)
      rw [e] at e1; cases e1
      exact e2
theorem callG (hr : Room k callerA) (F : ∀ bs : Heap, K.In bs → bs.Ns mainGlobals mg → FnG P w K mg bs CX0 k fa fd [x] sp) (hbd : ∀ (s : Shared) (u : Value), BindsTo s fd ⟨[u], []⟩ [(x, u)])
    (KX : K.In s1.heap) (n1 : s1.heap.Ns mainGlobals mg) (n2 : s1.heap.Ns builtinsNs mb) (n3 : ∀ x : Str, x ≠ "__name__" → mb x = bootBuiltins x) (n4 : s1.heap.NoLimit) (n5 : s1.gens = #[])
    (ha : s1.heap.get? a = some { cls := .type "list", data := .seq vs.toArray }) (hi : IntsAre vs ns) (hl : ns.length ≤ sizeLine)
    (hsp : ∀ H : Hp, Only H → SqL K H a (ns.map V.int) → sp [.ref a] H (fun v _ => v = .bl true) fun _ _ _ => False) :
    codeAny (model P w) callerA (.call (.ref fa) ⟨[.ref a], []⟩) (fun r s' => r = .ok (.ret (.bool true)) ∧ OldK s1.heap s'.heap ∧ s'.os = s1.os ∧ AllBare s'.gens) s1 := by
  have rv := vals_ints hi
  have lv := hi.length
  by_cases hk : K.lookup a = none
  · let H : Hp := fun b => if b = a then some (.frz { cls := .type "list", data := .seq vs.toArray } (.lst (ns.map V.int))) else none
    have at1 : H a = some (.frz { cls := .type "list", data := .seq vs.toArray } (.lst (ns.map V.int))) := if_pos rfl
    have at2 : ∀ b, b ≠ a → H b = none := fun b n => if_neg n
    have only : Only H := fun b => by
      by_cases hb : b = a
      · rw [hb]; exact .inr ⟨_, _, at1⟩
      · exact .inl (at2 b hb)
    refine callG_core hr F hbd KX n1 n2 n3 n4 n5 ha H only (fun b u z => ?_) (fun b z => ?_) (fun _ => hk) (hsp H only (.inl (.inr ⟨_, at1⟩)))
    · by_cases hb : b = a
      · rw [hb, at1] at z
        cases z
        rw [hb]
        exact ⟨ha, by rw [List.length_map]; exact hl, vs, _, rv, ha⟩
      · rw [at2 b hb] at z; cases z
    · by_cases hb : b = a
      · exact hb
      · exact absurd (at2 b hb) z
  · obtain ⟨o, ho⟩ := Option.ne_none_iff_exists'.mp hk
    have e := KX a o ho
    rw [ha] at e
    cases e
    have only : Only (fun _ => none) := fun _ => .inl rfl
    exact callG_core hr F hbd KX n1 n2 n3 n4 n5 ha (fun _ => none) only (fun b u z => nomatch (show (none : Option HO) = some u from z)) (fun b z => absurd rfl z) (fun z => absurd rfl z)
      (hsp _ only (.inr ⟨_, vs.toArray, _, ho, rfl, rfl, rfl, by rw [List.size_toArray, lv]; exact hl, by simpa using rv⟩))
end
theorem walkG {l : PySem.W.OpenLaw} {n k : Nat} {q : Program} {ls : List Str} {XP : (Str → Option Value) → Heap → Prop} {YP : World → Heap → Prop} {d : DefRec} {x : Str}
    (hn : l.most = some n) (hn2 : n ≤ sizeLine) (hdf : d.params.defaults = []) (hr : Room k callerA)
    (F : ∀ (w : World) (mg : Str → Option Value) (fa : Addr) (h : Heap), YP w h → h.Ns mainGlobals mg → mg d.name = some (.ref fa) →
      ∃ (K : PySem.W.Frag) (fd : FuncData) (sp : Sp), K.In h ∧ (∀ (s : Shared) (u : Value), BindsTo s fd ⟨[u], []⟩ [(x, u)]) ∧
        (∀ (H : Hp) (a : Addr) (ns : List Int), ns.length ≤ n → Only H → SqL K H a (ns.map V.int) → sp [.ref a] H (fun v _ => v = .bl true) fun _ _ _ => False) ∧
        ∀ bs : Heap, K.In bs → bs.Ns mainGlobals mg → FnG l.prog w K mg bs CX0 k fa fd [x] sp) :
    PySem.W.WalkO q ls XP YP l.row.toRowW d [] (fun f vs => PySem.call f vs) := by
  refine Att.attach_call hn hdf ?_
  intro w s0 s1 mg mb fa o pm cd doc a vs ns G Y ho hd hcd hmg hobj hints hlen hg
  obtain ⟨K, fd, sp, KX, hb, hsp, hF⟩ := F w mg fa _ Y G.T.g hmg
  exact callG hr hF hb KX G.T.g G.T.b G.T.builtins G.T.nolimit hg hobj hints (Nat.le_trans hlen hn2) (fun H hO hS => hsp H a ns hlen hO hS)
theorem rm66 {k : Nat} {A : Around} (r : Room k A) : A.units + 66 < cLine := by have := r.un; omega
def Cv (B' : Bn) (H : Hp) : List (Option PV) → List (Option PV) → Prop
  | [], [] => True
  | _ :: a, none :: b => Cv B' H a b
  | some p :: a, some q :: b => (∀ v, p v H → q v H) ∧ Stb B' q ∧ Cv B' H a b
  | _, _ => False
theorem Cv.len {B' : Bn} {H : Hp} : ∀ {a b : List (Option PV)}, Cv B' H a b → a.length = b.length
  | [], [], _ => rfl
  | _ :: a, none :: b, h => by rw [List.length_cons, List.length_cons, Cv.len (a := a) (b := b) (by cases ‹Option PV› <;> exact h)]
  | some _ :: a, some _ :: b, h => by rw [List.length_cons, List.length_cons, Cv.len (a := a) (b := b) h.2.2]
  | none :: _, some _ :: _, h => h.elim
  | [], _ :: _, h => h.elim
  | _ :: _, [], h => by cases ‹Option PV› <;> cases h
theorem Cv.get {B' : Bn} {H : Hp} : ∀ {a b : List (Option PV)} {i : Nat} {q : PV}, Cv B' H a b → b[i]? = some (some q) → Stb B' q ∧ ∃ p, a[i]? = some (some p) ∧ ∀ v, p v H → q v H
  | [], [], _, _, _, e => by simp at e
  | x :: a, none :: b, 0, q, _, e => by simp at e
  | x :: a, none :: b, i + 1, q, h, e => by
    have := Cv.get (a := a) (b := b) (i := i) (q := q) (by cases x <;> exact h) (by simpa using e)
    simpa using this
  | some x :: a, some y :: b, 0, q, h, e => by
    have e1 : y = q := by simpa using e
    subst e1
    exact ⟨h.2.1, x, rfl, h.1⟩
  | some x :: a, some y :: b, i + 1, q, h, e => by
    have := Cv.get (a := a) (b := b) (i := i) (q := q) h.2.2 (by simpa using e)
    simpa using this
  | none :: _, some _ :: _, _, _, h, _ => h.elim
  | [], _ :: _, _, _, h, _ => h.elim
  | _ :: _, [], _, _, h, _ => by cases ‹Option PV› <;> cases h
theorem SD.cv {B B' : Bn} {H : Hp} {σ : L2.St} {δ δ' : List (Option PV)} (s : SD B H σ δ) (o : BOk B' H) (c : Cv B' H δ δ') : SD B' H σ δ' := ⟨o, s.len.trans c.len, fun i q e => by
  obtain ⟨hq, p, e1, h⟩ := c.get e
  obtain ⟨v, e2, pv⟩ := s.get e1
  exact ⟨hq, v, e2, h v pv⟩⟩
abbrev own1 (p : Addr) : Bn := fun a => a = p
theorem own1.ok {p : Addr} {H : Hp} {o : HO} (h : H p = some o) : BOk (own1 p) H := fun a z => by rw [z, h]; exact fun q => nomatch q
theorem RB.own {p : Addr} {H0 H Hc : Hp} (e : Ex H0 H) (n : H0 p = none) (r : RB (own1 p) H Hc) : Ex H0 Hc := fun a o h => r.keep a o (fun z => by rw [show a = p from z, n] at h; cases h) (e a o h)
section
variable {B : Bn} {K : PySem.W.Frag} {δ : List (Option PV)} {H : Hp} {te : TE} {q : PV} {D : Ends} {σ : L2.St}
end
section
variable {R : Hp → Hp → Prop} {B : Bn} [rk : Rok B R] {K : PySem.W.Frag} {δ : List (Option PV)} {H : Hp} {ta tb te : TE} {C : Int → Prop}
end
def tyName : PyData → String
  | .none => "NoneType"
  | .bool _ => "bool"
  | .int _ => "int"
  | .str _ => "str"
  | .list _ => "list"
  | .tuple _ => "tuple"
  | .dict _ => "dict"
theorem im_ty {K : PySem.W.Frag} {B : Bn} {H : Hp} : ∀ {d : PyData} {v : V}, im K B d v H → TyX K H v (.type (tyName d))
  | .none, _, h => by cases (show _ = _ from h); exact .base .non
  | .bool _, _, h => by cases (show _ = _ from h); exact .base (.bl _)
  | .int _, _, h => by cases (show _ = _ from h); exact .base (.int _)
  | .str _, _, h => by cases (show _ = _ from h); exact .base (.str _)
  | .tuple ds, _, ⟨a, vs, e, s, _⟩ => by
    subst e
    rcases s with (s | ⟨o, s⟩) | ⟨o, its, n, h1, h2, _⟩
    · exact .base (.tup s)
    · exact .fTuple s
    · exact .kTuple h1 h2
  | .list ds, _, ⟨a, vs, e, _, s, _⟩ => by
    subst e
    rcases s with (s | ⟨o, s⟩) | ⟨o, its, n, h1, h2, _⟩
    · exact .base (.lst s)
    · exact .base (.frz s)
    · exact .kList h1 h2
  | .dict _, _, h => h.elim
theorem ev_isi {R : Hp → Hp → Prop} {B : Bn} [rk : Rok B R] {K : PySem.W.Frag} {δ : List (Option PV)} {H : Hp} {te : TE} {d : PyData} {T : String} {b : Bool} (he : Ev R B te δ H (im K B d)) (hb : kitB (tyName d) T = some b) :
    Ev R B (tCB (rIsi K) (tCons te (tCons (tC (.ty T)) tNil))) δ H (im K B (.bool b)) :=
  ev_cb (ea_cons he (ea_cons (ev_c (v := .ty T)) ea_nil)) fun vs H1 _ _ ⟨v, r, e, hv, v2, r2, e2, hv2, e3⟩ Q k => by
    subst e e2; cases (show r2 = [] from e3); cases (show v2 = _ from hv2)
    exact ⟨v, .ty T, _, _, b, rfl, .ty T, im_ty hv, kit_ty hb, k _ H1 (rk.rf H1) rfl⟩
section
variable {R : Hp → Hp → Prop} {B : Bn} [rk : Rok B R] {K : PySem.W.Frag} {δ : List (Option PV)} {H : Hp} {ta tb te : TE} {D : Ends} {σ : L2.St} {i j : Nat}
end
structure Shows (d : PyData) : Prop where
  s1 : d.showable = true
  s2 : d.hasDict = false
  s3 : d.depth ≤ 64
  s4 : d.shown.length ≤ sizeLine
abbrev sq (b r : List Int) : Nat → Int := fun n => letterAt b r (n : Int)
def Per (f : Nat → Int) (n p : Nat) : Prop := ∀ i, n ≤ i → f (i + p) = f i
structure Canon (f : Nat → Int) (a p : Nat) : Prop where
  pos : 1 ≤ p
  per : Per f a p
  minp : ∀ q n, 1 ≤ q → Per f n q → p ≤ q
  mina : ∀ n, Per f n p → a ≤ n
theorem least {P : Nat → Prop} (h : ∃ n, P n) : ∃ n, P n ∧ ∀ m, P m → n ≤ m := by
  obtain ⟨n, hn⟩ := h
  induction n using Nat.strongRecOn with
  | _ n ih =>
    rcases Classical.em (∃ m, m < n ∧ P m) with ⟨m, hm, pm⟩ | z
    · exact ih m hm pm
    · exact ⟨n, hn, fun m pm => Nat.le_of_not_lt fun q => z ⟨m, q, pm⟩⟩
theorem Canon.uniq {f : Nat → Int} {a p a' p' : Nat} (h : Canon f a p) (h' : Canon f a' p') : a = a' ∧ p = p' := by
  have e : p = p' := Nat.le_antisymm (h.minp _ _ h'.pos h'.per) (h'.minp _ _ h.pos h.per)
  subst e
  exact ⟨Nat.le_antisymm (h.mina _ h'.per) (h'.mina _ h.per), rfl⟩
theorem Canon.ex {f : Nat → Int} {n q : Nat} (hq : 1 ≤ q) (h : Per f n q) : ∃ a p, Canon f a p := by
  obtain ⟨p, ⟨p1, m, pm⟩, hp⟩ := least (P := fun p => 1 ≤ p ∧ ∃ m, Per f m p) ⟨q, hq, n, h⟩
  obtain ⟨a, pa, ha⟩ := least (P := fun a => Per f a p) ⟨m, pm⟩
  exact ⟨a, p, p1, pa, fun q n q1 pq => hp q ⟨q1, n, pq⟩, ha⟩
theorem Per.up {f : Nat → Int} {n m p : Nat} (h : Per f n p) (hm : n ≤ m) : Per f m p := fun i hi => h i (by omega)
structure Short (r r0 : List Int) : Prop where
  ne : r0 ≠ []
  le : r0.length ≤ r.length
  same : sq [] r0 = sq [] r
  minp : ∀ q n, 1 ≤ q → Per (sq [] r) n q → r0.length ≤ q
def relSp {α β : Type} (K : PySem.W.Frag) (args : α → List PyData) (pre : α → Prop) (C : α → β → Prop) (res : β → PyData) : Sp := fun vs H Q _ =>
  ∃ (B : Bn) (a : α), BOk B H ∧ imAll K B (args a) vs H ∧ pre a ∧ ∀ b v H', C a b → Ex H H' → im K B (res b) v H' → Q v H'
theorem relSp.len {α β : Type} {K : PySem.W.Frag} {args : α → List PyData} {pre : α → Prop} {C : α → β → Prop} {res : β → PyData} {n : Nat} (h : ∀ a, (args a).length = n) {vs : List V} {H : Hp} {Q : VK} {E : XK} (q : relSp K args pre C res vs H Q E) : vs.length = n := by
  obtain ⟨B, a, _, h1, _⟩ := q
  rw [imAll_len h1]; exact h a
def handSp {α β : Type} (K : PySem.W.Frag) (args : α → List PyData) (pre : α → Prop) (C : α → β → Prop) (res : β → PyData) : Sp := fun vs H Q _ =>
  ∃ (B : Bn) (h l : Addr) (a : α) (us : List V), Has B h l ∧ BOk B H ∧ HandOk h l H ∧ vs = .ref h :: us ∧ imAll K B (args a) us H ∧ pre a ∧ ∀ b v H', C a b → Rh h l H H' → im K B (res b) v H' → Q v H'
theorem handSp.len {α β : Type} {K : PySem.W.Frag} {args : α → List PyData} {pre : α → Prop} {C : α → β → Prop} {res : β → PyData} {n : Nat} (h : ∀ a, (args a).length = n) {vs : List V} {H : Hp} {Q : VK} {E : XK} (q : handSp K args pre C res vs H Q E) : vs.length = n + 1 := by
  obtain ⟨B, _, _, a, us, _, _, _, rfl, h1, _⟩ := q
  rw [List.length_cons, imAll_len h1, h a]
section
variable {R : Hp → Hp → Prop} {B : Bn} [rk : Rok B R] {K : PySem.W.Frag} {δ : List (Option PV)} {H H' : Hp}
end
section
variable {B : Bn} {h l : Addr} [hs : Has B h l] {K : PySem.W.Frag} {δ : List (Option PV)} {H : Hp} {t0 : TE} {E : XK}
end
section
variable {X : Cx} (K : PySem.W.Frag)
theorem op_addK (h : X.K = K := by rfl) : OpR X (binaryOp .Add) (rAddU K) := h ▸ op_addU
theorem op_mulK (h : X.K = K := by rfl) : OpR X (binaryOp .Mult) (rMulU K) := h ▸ op_mulU
theorem op_eqK (hu : X.A.units + 64 < cLine) (h : X.K = K := by rfl) : OpR X (compareOp .Eq) (rEqU K) := h ▸ op_eqU hu
theorem op_neK (hu : X.A.units + 64 < cLine) (h : X.K = K := by rfl) : OpR X (compareOp .NotEq) (rNeU K) := h ▸ op_neU hu
theorem sl_seqK (h : X.K = K := by rfl) : SlR X (rSlU K) := h ▸ sl_seqU
theorem ix_seqK (h : X.K = K := by rfl) : IxR X (rIx K) := h ▸ ix_seq
theorem op_inK (h : X.K = K := by rfl) : OpR X (compareOp .In) (rIn K false) := h ▸ op_in_seq
theorem op_notInK (h : X.K = K := by rfl) : OpR X (compareOp .NotIn) (rIn K true) := h ▸ op_notIn_seq
theorem call_lenK (h : X.K = K := by rfl) : CallR X (.builtin "len") (rLenQ K) := h ▸ call_len_seq
theorem call_tupleK (h : X.K = K := by rfl) : CallR X (.type "tuple") (rTupQ K) := h ▸ call_tuple_of
theorem call_listK (h : X.K = K := by rfl) : CallR X (.type "list") (rListQ K) := h ▸ call_list_of
theorem call_isiK (h : X.K = K := by rfl) : CallR X (.builtin "isinstance") (rIsi K) := h ▸ call_isi
theorem call_reprK (gd : X.A.guards = some []) (hu : X.A.units + 66 < cLine) (h : X.K = K := by rfl) : CallR X (.builtin "repr") (rReprD K) := h ▸ call_reprD gd hu
theorem cr_anyK (hc : X.calm = true) (h : X.K = K := by rfl) : CallR X (.builtin "any") (rAny K) := h ▸ cr_any hc
theorem cr_allK (hc : X.calm = true) (h : X.K = K := by rfl) : CallR X (.builtin "all") (rAll K) := h ▸ cr_all hc
theorem pi_seqK {tg l : Expr} {t : TE} (e : PE X l t) (h : X.K = K := by rfl) : PI X tg l (iSeqU K t) := h ▸ pi_seqU e
theorem pi_listK {tg l : Expr} {t : TE} (e : PE X l t) (h : X.K = K := by rfl) : PI X tg l (iList K t) := h ▸ pi_list e
end
section
variable {R : Hp → Hp → Prop} {B : Bn} [rk : Rok B R] {K : PySem.W.Frag} {δ : List (Option PV)} {H : Hp} {ta tb te : TE} {tt tu : TT} {D : Ends} {σ : L2.St} {t u : TS}
theorem EvTx.conv {C C' : Bool → Prop} (h : EvTx R B tt δ H C) (c : ∀ b, C b → C' b) : EvTx R B tt δ H C' := fun σ H1 r S Q k => h σ H1 r S Q fun b H2 z r2 => k b H2 (c b z) r2
theorem EvTx.at_ {C : Bool → Prop} {H' : Hp} (h : EvTx R B tt δ H C) (r : R H H') : EvTx R B tt δ H' C := fun σ H2 r2 => h σ H2 (rk.tr r r2)
end
theorem cut_mid {α : Type} {xs : List α} {n m : Nat} : cut xs (some (n : Int)) (some (m : Int)) = (xs.drop n).take (m - n) := by
  unfold cut
  rw [HT.sIx_nat, HT.sIx_nat]
  rcases Nat.le_total n xs.length with h | h
  · rw [Nat.min_eq_left h]
    rcases Nat.le_total m xs.length with h2 | h2
    · rw [Nat.min_eq_left h2]
    · rw [Nat.min_eq_right h2, List.take_of_length_le (by rw [List.length_drop]; omega), List.take_of_length_le (by rw [List.length_drop]; omega)]
  · rw [Nat.min_eq_right h, List.drop_of_length_le h, List.drop_of_length_le (Nat.le_refl _), List.take_nil, List.take_nil]
section
variable {R : Hp → Hp → Prop} {B : Bn} [rk : Rok B R] {K : PySem.W.Frag} {δ : List (Option PV)} {H H' : Hp} {to ti te : TE} {p q w : PV} {tt : TT} {D : Ends} {σ : L2.St} {t u e : TS} {i j l : Nat}
end
section
variable {R : Hp → Hp → Prop} {B : Bn} [rk : Rok B R] {K : PySem.W.Frag} {δ : List (Option PV)} {H : Hp} {te tb : TE}
end
section
variable {R : Hp → Hp → Prop} {B : Bn} [rk : Rok B R] {K : PySem.W.Frag} {δ : List (Option PV)} {H : Hp} {ta te tb : TE}
theorem cut_sub {α : Type} {xs : List α} {lo hi : Option Int} {x : α} (h : x ∈ cut xs lo hi) : x ∈ xs := List.mem_of_mem_drop (List.mem_of_mem_take h)
theorem cut_len {α : Type} {xs : List α} {lo hi : Option Int} : (cut xs lo hi).length ≤ xs.length := by
  unfold cut
  rw [List.length_take, List.length_drop]
  omega
end
def rLtD (K : PySem.W.Frag) : R2 := fun x y H Q => ∃ d e, Dp K H x d ∧ Dp K H y e ∧ PySem.W.alike d e = true ∧ d ≠ .none ∧ d.depth ≤ 64 ∧ Q (.bl (PySem.W.dataLt d e)) H
theorem op_ltD {X : Cx} (hu : X.A.units + 64 < cLine) : OpR X (compareOp .Lt) (rLtD X.K) := by
  intro pins s σ H x y v u Q I rx ry h
  obtain ⟨d, e, hd, he, ha, hn, hl, q⟩ := h
  obtain ⟨as, r1⟩ := Dp.reads I d x v hd rx
  obtain ⟨bs, r2⟩ := Dp.reads I e y u he ry
  exact PySem.W.rcLt_alike d e X.A s v u as bs r1 r2 ha hn (by omega) _ _ _ _ ⟨.bl _, H, I, rfl, q⟩
def rLtU (K : PySem.W.Frag) : R2 := rOr (rI0 fun i j => .bl (decide (i < j))) (rLtD K)
theorem op_ltK {X : Cx} (K : PySem.W.Frag) (hu : X.A.units + 64 < cLine) (h : X.K = K := by rfl) : OpR X (compareOp .Lt) (rLtU K) := h ▸ op_or op_lt (op_ltD hu)
section
variable {R : Hp → Hp → Prop} {B : Bn} [rk : Rok B R] {K : PySem.W.Frag} {δ : List (Option PV)} {H : Hp} {ta te tb : TE} {D : Ends} {σ : L2.St} {u tbd : TS}
theorem src_zip {ds es : List PyData} (ha : Ev R B ta δ H (im K B (.list ds))) (hb : Ev R B tb δ H (im K B (.list es))) (hl : ds.length = es.length) :
    Src R B (iZip K (tCons ta (tCons tb tNil))) δ H ds.length (fun i => im K B (.tuple [ds.getD i .none, es.getD i .none])) := fun σ H1 r S Q k =>
  ha σ H1 r S _ fun v H2 r2 hv => hb σ H2 (rk.tr r r2) (S.mono (rk.rb r2)) _ fun w H3 r3 ⟨b, ws, e', nb', s', hw⟩ => by
    obtain ⟨a, vs, e, nb, s, hv⟩ := im_st (rk.rb r3) _ _ hv
    refine ⟨a, b, vs, ws, by rw [e, e'], s, s', k _ (fun Hc => (SqL K Hc a vs ∧ SqL K Hc b ws) ∧ imAll K B ds vs Hc ∧ imAll K B es ws Hc) H3 (rk.tr r2 r3) ?_ fun H4 rb => ⟨⟨rb.sqL nb s, rb.sqL nb' s'⟩, imAll_st rb _ _ hv, imAll_st rb _ _ hw⟩⟩
    refine (walk_zip (by rw [imAll_len hv, imAll_len hw, ← hl, Nat.min_self])).mono (fun _ z => z.1) fun i Ha x Hb _ g ⟨T, y, z, ex, hT, eH, e1, e2⟩ => ?_
    subst eH
    have r4 := Ex.new (o := .tup [y, z]) hT
    exact ⟨r4, T, [y, z], ex, sqT_of upd_same, y, [z], rfl, im_st (RB.of_ex r4) _ _ (getD_im g.2.1 e1), z, [], rfl, im_st (RB.of_ex r4) _ _ (getD_im g.2.2 e2), rfl⟩
theorem Ev.own {p : Addr} {vs : List V} {ds : List PyData} (h : Ev R B te δ H (isP (.ref p))) (nb : ¬ B p) (e : H p = some (.lst vs)) (hv : imAll K B ds vs H) : Ev R B te δ H (im K B (.list ds)) :=
  h.conv fun v H1 r q => ⟨p, vs, q, nb, sqL_of ((rk.rb r).keep _ _ nb e), imAll_st (rk.rb r) _ _ hv⟩
end
def PS : List (Option PV) → Prop
  | [] => True
  | none :: l => PS l
  | some q :: l => (∀ v H H', TK H H' → q v H → q v H') ∧ PS l
theorem PS.get : ∀ {δ : List (Option PV)} {i : Nat} {q : PV}, PS δ → δ[i]? = some (some q) → ∀ v H H', TK H H' → q v H → q v H'
  | [], _, _, _, e => by simp at e
  | none :: l, 0, _, _, e => by simp at e
  | none :: l, i + 1, _, h, e => PS.get (δ := l) (i := i) h (by simpa using e)
  | some q :: l, 0, _, h, e => by simp at e; subst e; exact h.1
  | some q :: l, i + 1, _, h, e => PS.get (δ := l) (i := i) h.2 (by simpa using e)
theorem SD.tk {B : Bn} {H H' : Hp} {σ : L2.St} {δ : List (Option PV)} (s : SD B H σ δ) (o : BOk B H') (t : TK H H') (p : PS δ) : SD B H' σ δ := ⟨o, s.len, fun i q e => by
  obtain ⟨a, v, e1, h⟩ := s.at_ i q e
  exact ⟨a, v, e1, p.get e v H H' t h⟩⟩
section
variable {B : Bn} {K : PySem.W.Frag} {δ : List (Option PV)} {H : Hp} {te : TE} {D : Ends} {σ : L2.St} {u : TS}
end
theorem canLayAll_of : ∀ {ds : List PyData}, (∀ d ∈ ds, PyData.canLay0 d = true) → PyData.canLayAll0 ds = true
  | [], _ => by simp [PyData.canLayAll0]
  | d :: ds, h => by simp only [PyData.canLayAll0, h d (List.mem_cons_self ..), canLayAll_of fun e he => h e (List.mem_cons_of_mem _ he), Bool.and_self]
theorem depthAll_of {n : Nat} : ∀ {ds : List PyData}, (∀ d ∈ ds, PyData.depth d ≤ n) → PyData.depthAll ds ≤ n
  | [], _ => by simp [PyData.depthAll]
  | d :: ds, h => by
    have h1 := h d (List.mem_cons_self ..)
    have h2 := depthAll_of fun e he => h e (List.mem_cons_of_mem _ he)
    simp only [PyData.depthAll]
    omega
theorem shaped_list {ds : List PyData} {n : Nat} (h1 : ∀ d ∈ ds, PyData.canLay0 d = true) (h2 : ∀ d ∈ ds, PyData.depth d ≤ n) (hn : n ≤ 60) : SeqAt.shaped (.list ds) = true := by
  unfold SeqAt.shaped
  have a := canLayAll_of h1
  have b := depthAll_of h2
  simp only [PyData.canLay0, a, PyData.depth, Bool.true_and]
  exact decide_eq_true (by omega)
def ownE (B : Bn) (a : Addr) : PV := fun v Hc => v = .ref a ∧ ¬ B a ∧ Hc a = some (.lst [])
instance {B : Bn} {a : Addr} : Stb B (ownE B a) := ⟨fun r ⟨e, n, h⟩ => ⟨e, n, r.keep _ _ n h⟩⟩
abbrev ownX (B : Bn) : PV := exP (fun _ : Addr => True) (ownE B)
section
variable {R : Hp → Hp → Prop} {B : Bn} [rk : Rok B R] [rm : Rmk R] {K : PySem.W.Frag} {δ : List (Option PV)} {H : Hp} {ta te tb : TE} {D : Ends} {σ : L2.St} {u tbd : TS}
theorem ev_own (K : PySem.W.Frag) : Ev R B (tLst tNil) δ H (ownX B) := (ev_lstN (K := K) (ds := []) ea_nil (Nat.zero_le _)).conv fun v H1 _ ⟨a, vs, e, n, nb, h, q⟩ => ⟨a, trivial, e, nb, by rw [show vs = [] from q] at h; exact h⟩
end
theorem SD.own {B : Bn} {H : Hp} {σ : L2.St} {δ : List (Option PV)} (s : SD B H σ δ) (i : Nat) (e : δ[i]? = some (some (ownX B))) : ∃ a, ¬ B a ∧ H a = some (.lst []) ∧ SD B H σ (δ.set i (some (isP (.ref a)))) := by
  obtain ⟨v, e1, a, _, ev, nb, h⟩ := s.get e
  refine ⟨a, nb, h, s.ok, by rw [List.length_set]; exact s.len, fun j q e2 => ?_⟩
  by_cases z : i = j
  · subst z
    have hl : i < δ.length := by
      rcases Nat.lt_or_ge i δ.length with z | z
      · exact z
      · rw [List.getElem?_eq_none z] at e; cases e
    rw [List.getElem?_set_self hl] at e2
    cases e2
    exact ⟨inferInstance, v, e1, ev⟩
  · rw [List.getElem?_set_ne z] at e2
    exact s.at_ j q e2
theorem SD.up {B : Bn} {H : Hp} {σ : L2.St} {δ : List (Option PV)} {p q : PV} [hq : Stb B q] (s : SD B H σ δ) (i : Nat) (e : δ[i]? = some (some p)) (h : ∀ v, p v H → q v H) : SD B H σ (δ.set i (some q)) := by
  obtain ⟨v, e1, pv⟩ := s.get e
  refine ⟨s.ok, by rw [List.length_set]; exact s.len, fun j w e2 => ?_⟩
  by_cases z : i = j
  · subst z
    have hl : i < δ.length := by
      rcases Nat.lt_or_ge i δ.length with z | z
      · exact z
      · rw [List.getElem?_eq_none z] at e; cases e
    rw [List.getElem?_set_self hl] at e2
    cases e2
    exact ⟨hq, v, e1, h v pv⟩
  · rw [List.getElem?_set_ne z] at e2
    exact s.at_ j w e2
section
variable {R : Hp → Hp → Prop} {B : Bn} [rk : Rok B R] {K : PySem.W.Frag} {δ : List (Option PV)} {H : Hp} {ta te tb : TE} {D : Ends} {σ : L2.St} {u tbd : TS}
theorem Src.conv {wi : TI} {n m : Nat} {Y Z : Nat → PV} (h : Src R B wi δ H n Y) (e : n = m) (c : ∀ i v Hc, i < n → Y i v Hc → Z i v Hc) : Src R B wi δ H m Z := fun σ H1 r S Q k =>
  h σ H1 r S Q fun J G H2 r2 w g => k J G H2 r2 (e ▸ w.mono (fun _ z => z) fun i Ha x Hb hi _ y => ⟨y.1, c i x Hb hi y.2⟩) g
end
def rawL (K : PySem.W.Frag) (B : Bn) (ds : List PyData) : PV := fun v Hc => ∃ a vs, v = .ref a ∧ ¬ B a ∧ Hc a = some (.lst vs) ∧ imAll K B ds vs Hc
instance {K : PySem.W.Frag} {B : Bn} {ds : List PyData} : Stb B (rawL K B ds) := ⟨fun r ⟨a, vs, e, nb, h, q⟩ => ⟨a, vs, e, nb, r.keep _ _ nb h, imAll_st r _ _ q⟩⟩
theorem rawL.im {K : PySem.W.Frag} {B : Bn} {Hc : Hp} {ds : List PyData} {v : V} (h : rawL K B ds v Hc) : im K B (.list ds) v Hc := by
  obtain ⟨a, vs, e, nb, h, q⟩ := h
  exact ⟨a, vs, e, nb, sqL_of h, q⟩
theorem newL.raw {K : PySem.W.Frag} {B : Bn} {H Hc : Hp} {ds : List PyData} {v : V} (h : newL K B H ds v Hc) : rawL K B ds v Hc := by
  obtain ⟨a, vs, e, n, nb, h, q⟩ := h
  exact ⟨a, vs, e, nb, h, q⟩
section
variable {R : Hp → Hp → Prop} {B : Bn} [rk : Rok B R] {K : PySem.W.Frag} {δ : List (Option PV)} {H : Hp} {ta te tb : TE} {D : Ends} {σ : L2.St} {u tbd : TS}
def SrcD (R : Hp → Hp → Prop) (B : Bn) (wi : TI) (δ : List (Option PV)) (H : Hp) (n : Nat) (Y : Nat → PV) : Prop := ∀ σ H1 A, R H H1 → SD B H1 σ δ → H1 A ≠ none → ∀ Q : It → Hp → Prop,
  (∀ (J : It) (G : Hp → Prop) (H2 : Hp), R H1 H2 → Walk J n G (fun i Ha x Hb => Ex Ha Hb ∧ Y i x Hb) → (∀ H3, RB (fun a => B a ∨ a = A) H2 H3 → G H3) → Q J H2) → wi σ H1 Q
end
section
variable {R : Hp → Hp → Prop} {B : Bn} [rk : Rok B R] {K : PySem.W.Frag} {δ : List (Option PV)} {H : Hp} {ta te tb : TE} {D : Ends} {σ : L2.St} {u tbd : TS} {tt : TT}
def newSp {α : Type} (K : PySem.W.Frag) (args : α → List PyData) (pre : α → Prop) (res : α → List PyData) : Sp := fun vs H Q _ =>
  ∃ a : α, imAll K (fun _ => False) (args a) vs H ∧ pre a ∧ ∀ v H', Ex H H' → newL K (fun _ => False) H (res a) v H' → Q v H'
theorem newSp.len {α : Type} {K : PySem.W.Frag} {args : α → List PyData} {pre : α → Prop} {res : α → List PyData} {n : Nat} (h : ∀ a, (args a).length = n) {vs : List V} {H : Hp} {Q : VK} {E : XK} (q : newSp K args pre res vs H Q E) : vs.length = n := by
  obtain ⟨a, hv, _⟩ := q
  rw [imAll_len hv, h]
theorem SrcD.conv {wi : TI} {n m : Nat} {Y Z : Nat → PV} (h : SrcD R B wi δ H n Y) (e : n = m) (c : ∀ i v Hc, i < n → Y i v Hc → Z i v Hc) : SrcD R B wi δ H m Z := fun σ H1 A r S hA Q k =>
  h σ H1 A r S hA Q fun J G H2 r2 w g => k J G H2 r2 (e ▸ w.mono (fun _ z => z) fun i Ha x Hb hi _ y => ⟨y.1, c i x Hb hi y.2⟩) g
end
section
variable {B : Bn} {K : PySem.W.Frag} {δ : List (Option PV)} {H : Hp} {te : TE} {D : Ends} {σ : L2.St} {u : TS}
end
def rowsI (L : Nat) : Nat → List (List Int)
  | 0 => [[]]
  | n + 1 => (rowsI L n).flatMap fun row => (List.range L).map fun x => row ++ [((x : Nat) : Int)]
def blk (L m k : Nat) : List (List Int × List Int) := (rowsI L k).flatMap fun b => (rowsI L (m - k)).map fun r => (b, r)
def cnt (L : Nat) : Nat → Nat
  | 0 => 0
  | n + 1 => cnt L n + (n + 1) * L ^ (n + 1)
theorem newL.back {K : PySem.W.Frag} {B : Bn} {H H0 Hc : Hp} {ds : List PyData} {v : V} (e : Ex H H0) (h : newL K B H0 ds v Hc) : newL K B H ds v Hc := by
  obtain ⟨a, vs, ev, n, nb, hx, hv⟩ := h
  exact ⟨a, vs, ev, e.free n, nb, hx, hv⟩
section
variable {R : Hp → Hp → Prop} {B : Bn} [rk : Rok B R] {K : PySem.W.Frag} {δ δ' : List (Option PV)} {H : Hp} {ta te tb : TE} {D : Ends} {σ : L2.St} {u tbd : TS} {tt : TT}
end
section
variable {B : Bn} {K : PySem.W.Frag} {δ δ' : List (Option PV)} {H : Hp} {te : TE} {D : Ends} {σ : L2.St} {u : TS}
end
section
variable {B : Bn} {K : PySem.W.Frag} {δ δ' : List (Option PV)} {H : Hp} {te : TE} {D : Ends} {σ : L2.St} {u : TS}
end
abbrev plus (B : Bn) (p : Addr) : Bn := fun a => B a ∨ a = p
theorem plus.ok {B : Bn} {p : Addr} {H : Hp} {xs : List V} (o : BOk B H) (h : H p = some (.lst xs)) : BOk (plus B p) H := fun a z => z.elim (o a) fun e => by rw [e, h]; exact fun q => nomatch q
theorem op_inDK {X : Cx} (K : PySem.W.Frag) (hu : X.A.units + 66 < cLine) (h : X.K = K := by rfl) : OpR X (compareOp .In) (rInD K) := h ▸ op_inD (by omega)
theorem op_notInDK {X : Cx} (K : PySem.W.Frag) (hu : X.A.units + 66 < cLine) (h : X.K = K := by rfl) : OpR X (compareOp .NotIn) (rNotInD K) := h ▸ op_notInD (by omega)
section
variable {R : Hp → Hp → Prop} {B : Bn} [rk : Rok B R] {K : PySem.W.Frag} {δ : List (Option PV)} {H : Hp} {ta te tb : TE}
end
section
variable {B : Bn} {h l : Addr} [hs : Has B h l] {K : PySem.W.Frag} {δ : List (Option PV)} {H : Hp} {te : TE} {D : Ends} {σ : L2.St}
end
end EL
namespace UX
open PySem PySem.Spec PyProof.Rows L2
open EL (Ex RB BOk Bn TK)
inductive U where
  | non | bl (b : Bool) | int (i : Int) | str (x : Str)
  | tup (us : List U) | lst (us : List U)
  | dct (ks : List Key) (us : List U)
  | dcT (ks : List (List Key)) (us : List U)
  | dcN (ks : List U) (us : List U)
  | obj (c : Str) (ns : List Str) (us : List U)
  | top (x : Str)
  | frl (us : List U)
  | loc (i : Nat)
  | exc (c : Str)
  | exo (c f : Str) (u : U)
mutual
def nkU : U → Option NestedKey
  | .non => some .none
  | .bl b => some (.num (if b = true then 1 else 0))
  | .int i => some (.num i)
  | .tup us => (nkAll us).map .tup
  | .str _ => none
  | .lst _ => none
  | .dct _ _ => none
  | .dcT _ _ => none
  | .dcN _ _ => none
  | .obj _ _ _ => none
  | .top _ => none
  | .frl _ => none
  | .loc _ => none
  | .exc _ => none
  | .exo _ _ _ => none
def nkAll : List U → Option (List NestedKey)
  | [] => some []
  | u :: us => match nkU u, nkAll us with
    | some d, some ds => some (d :: ds)
    | _, _ => none
end
def nk8 (u : U) : Option NestedKey := match nkU u with
  | some k => if k.depth ≤ 8 then some k else none
  | none => none
def nk8s : List U → Option (List NestedKey)
  | [] => some []
  | u :: us => match nk8 u, nk8s us with
    | some d, some ds => some (d :: ds)
    | _, _ => none
abbrev NP : Type := NestedKey × Addr × V
def nkA (kvs : List NP) : List V := kvs.map fun x => V.ref x.2.1
def nkV (kvs : List NP) : List V := kvs.map fun x => x.2.2
def NKV (kvs : List NP) (xs : List (NestedKey × Addr × Value)) : Prop := Paired (fun (p : NP) (q : NestedKey × Addr × Value) => p.1 = q.1 ∧ p.2.1 = q.2.1 ∧ RelV p.2.2 q.2.2) kvs xs
def DNh (P : Program) (w : World) (a : Addr) (kvs : List NP) (h : Heap) : Prop := kvs.length ≤ sizeLine ∧ (a == sysModules) = false ∧ ∃ xs : List (NestedKey × Addr × Value), NKV kvs xs ∧
  ∃ o es ep, h.get? a = some o ∧ o.ExactDict ∧ o.data = .dict es ep ∧ es.toList = xs.map (entryOfKey (nestedKind P w)) ∧ (xs.map (·.1)).Nodup
def DNo (a : Addr) (kvs : List NP) : HO := .ext fun h => ∃ (P : Program) (w : World), DNh P w a kvs h
def ExK (C a : Addr) : HO := .ext fun h => ∃ (oe : Obj) (vs : Array Value), h.get? a = some oe ∧ (oe.cls = .ref C ∧ oe.dict = none) ∧ oe.data = .fields vs
def ExKD (C a d : Addr) : HO := .ext fun h => ∃ (oe : Obj) (vs : Array Value), h.get? a = some oe ∧ (oe.cls = .ref C ∧ oe.dict = some d) ∧ oe.data = .fields vs
def ExKo (C a : Addr) : Option Addr → HO
  | none => ExK C a
  | some d => ExKD C a d
structure Cxt where
  K : PySem.W.Frag
  at_ : Str → Addr
def FrL (K : PySem.W.Frag) (B : Bn) (H : Hp) (a : Addr) (vs : List V) : Prop := (¬ B a ∧ H a = some (.lst vs)) ∨ (∃ o, H a = some (.frz o (.lst vs))) ∨ SqL K (fun _ => none) a vs
theorem FrL.sq {K : PySem.W.Frag} {B : Bn} {H : Hp} {a : Addr} {vs : List V} (h : FrL K B H a vs) : SqL K H a vs := by
  rcases h with ⟨_, h⟩ | ⟨o, h⟩ | h
  · exact .inl (.inl h)
  · exact .inl (.inr ⟨o, h⟩)
  · rcases h with (h | ⟨o, h⟩) | h
    · cases h
    · cases h
    · exact .inr h
theorem FrL.of {K : PySem.W.Frag} {B : Bn} {H : Hp} {a : Addr} {vs : List V} (nb : ¬ B a) (h : SqL K H a vs) : FrL K B H a vs := by
  rcases h with (h | ⟨o, h⟩) | h
  · exact .inl ⟨nb, h⟩
  · exact .inr (.inl ⟨o, h⟩)
  · exact .inr (.inr (.inr h))
structure Kd (B : Bn) (H H' : Hp) : Prop where
  lst : ∀ a xs, ¬ B a → H a = some (.lst xs) → H' a = some (.lst xs)
  ins : ∀ a C dx fs, ¬ B a → H a = some (.ins C dx fs) → H' a = some (.ins C dx fs)
  dK : ∀ a kvs, ¬ B a → Rd H a (.dK kvs) → Rd H' a (.dK kvs)
  dT : ∀ a kvs, ¬ B a → Rd H a (.dT kvs) → Rd H' a (.dT kvs)
  ext : ∀ a φ, ¬ B a → Rd H a (.ext φ) → Rd H' a (.ext φ)
  xd : ∀ a fs, ¬ B a → Rd H a (.xd fs) → Rd H' a (.xd fs)
  tup : ∀ a xs, H a = some (.tup xs) → H' a = some (.tup xs)
  ftup : ∀ a o xs, H a = some (.frz o (.tup xs)) → H' a = some (.frz o (.tup xs))
  flst : ∀ a o xs, H a = some (.frz o (.lst xs)) → H' a = some (.frz o (.lst xs))
theorem kd_of {B : Bn} {H H' : Hp} (r : RB B H H') : Kd B H H' :=
  ⟨fun a xs n h => r.keep _ _ n h, fun a C dx fs n h => r.keep _ _ n h,
   fun a kvs n h => h.elim (fun h => .inl (r.keep _ _ n h)) fun ⟨o, h⟩ => .inr ⟨o, r.frz _ _ _ h⟩,
   fun a kvs n h => h.elim (fun h => .inl (r.keep _ _ n h)) fun ⟨o, h⟩ => .inr ⟨o, r.frz _ _ _ h⟩,
   fun a φ n h => h.elim (fun h => .inl (r.keep _ _ n h)) fun ⟨o, h⟩ => .inr ⟨o, r.frz _ _ _ h⟩,
   fun a fs n h => h.elim (fun h => .inl (r.keep _ _ n h)) fun ⟨o, h⟩ => .inr ⟨o, r.frz _ _ _ h⟩, r.tup, fun a o xs h => r.frz _ _ _ h, fun a o xs h => r.frz _ _ _ h⟩
theorem Kd.dN {B : Bn} {H H' : Hp} (r : Kd B H H') (a b : Addr) (kvs : List NP) (n : ¬ B a) (h : Rd H a (DNo b kvs)) : Rd H' a (DNo b kvs) := r.ext a _ n h
theorem Kd.sqT {B : Bn} {K : PySem.W.Frag} {H H' : Hp} {a : Addr} {xs : List V} (r : Kd B H H') (h : SqT K H a xs) : SqT K H' a xs := by
  rcases h with (h | ⟨o, h⟩) | h
  · exact .inl (.inl (r.tup _ _ h))
  · exact .inl (.inr ⟨o, r.ftup _ _ _ h⟩)
  · exact .inr h
theorem FrL.st {K : PySem.W.Frag} {B : Bn} {H H' : Hp} {a : Addr} {vs : List V} (r : Kd B H H') (h : FrL K B H a vs) : FrL K B H' a vs := by
  rcases h with ⟨n, h⟩ | ⟨o, h⟩ | h
  · exact .inl ⟨n, r.lst _ _ n h⟩
  · exact .inr (.inl ⟨o, r.flst _ _ _ h⟩)
  · exact .inr (.inr h)
theorem FrL.sub {K : PySem.W.Frag} {B B' : Bn} {H : Hp} {a : Addr} {vs : List V} (s : ∀ a, H a ≠ none → B' a → B a) (h : FrL K B H a vs) : FrL K B' H a vs := by
  rcases h with ⟨n, h⟩ | ⟨o, h⟩ | h
  · exact .inl ⟨fun b => n (s a (by rw [h]; exact fun z => nomatch z) b), h⟩
  · exact .inr (.inl ⟨o, h⟩)
  · exact .inr (.inr h)
theorem rd_ne {H : Hp} {a : Addr} {u : HO} (h : Rd H a u) : H a ≠ none := by
  rcases h with h | ⟨o, h⟩ <;> rw [h] <;> exact fun z => nomatch z
section
variable (G : Cxt) (rs : List Addr) (B : Bn)
mutual
def im : U → V → Hp → Prop
  | .non, v, _ => v = .non
  | .bl b, v, _ => v = .bl b
  | .int i, v, _ => v = .int i
  | .str x, v, _ => v = .str x
  | .tup us, v, H => ∃ a vs, v = .ref a ∧ H a = some (.tup vs) ∧ imAll us vs H
  | .lst us, v, H => ∃ a vs, v = .ref a ∧ ¬ B a ∧ H a = some (.lst vs) ∧ imAll us vs H
  | .dct ks us, v, H => ∃ a vs, v = .ref a ∧ ¬ B a ∧ Rd H a (.dK (ks.zip vs)) ∧ ks.length = us.length ∧ imAll us vs H
  | .dcT ks us, v, H => ∃ a vs, v = .ref a ∧ ¬ B a ∧ Rd H a (.dT (ks.zip vs)) ∧ ks.length = us.length ∧ imAll us vs H
  | .dcN ks us, v, H => ∃ a kvs, v = .ref a ∧ ¬ B a ∧ Rd H a (DNo a kvs) ∧ nk8s ks = some (kvs.map (·.1)) ∧ imAll ks (nkA kvs) H ∧ imAll us (nkV kvs) H
  | .obj c ns us, v, H => ∃ a dx vs, v = .ref a ∧ ¬ B a ∧ H a = some (.ins (G.at_ c) dx (ns.zip vs)) ∧ ns.length = us.length ∧ imAll us vs H
  | .top x, v, _ => v = .ref (G.at_ x)
  | .frl us, v, H => ∃ a vs, v = .ref a ∧ FrL G.K B H a vs ∧ imAll us vs H
  | .loc i, v, _ => ∃ a, rs[i]? = some a ∧ v = .ref a
  | .exc c, v, H => ∃ a, v = .ref a ∧ ¬ B a ∧ Rd H a (ExK (G.at_ c) a)
  | .exo c f u, v, H => ∃ a d w, v = .ref a ∧ ¬ B a ∧ ¬ B d ∧ Rd H a (ExKD (G.at_ c) a d) ∧ Rd H d (.xd [(f, w)]) ∧ im u w H
def imAll : List U → List V → Hp → Prop
  | [], vs, _ => vs = []
  | u :: us, vs, H => ∃ v r, vs = v :: r ∧ im u v H ∧ imAll us r H
end
end
section
variable {G : Cxt} {rs rs' : List Addr} {B B' : Bn} {H H' : Hp}
mutual
theorem im_kd (r : Kd B H H') : ∀ (u : U) (v : V), im G rs B u v H → im G rs B u v H'
  | .non, _, h => h
  | .bl _, _, h => h
  | .int _, _, h => h
  | .str _, _, h => h
  | .tup us, _, ⟨a, vs, e, s, q⟩ => ⟨a, vs, e, r.tup _ _ s, imAll_kd r us vs q⟩
  | .lst us, _, ⟨a, vs, e, n, s, q⟩ => ⟨a, vs, e, n, r.lst _ _ n s, imAll_kd r us vs q⟩
  | .dct ks us, _, ⟨a, vs, e, n, s, l, q⟩ => ⟨a, vs, e, n, r.dK _ _ n s, l, imAll_kd r us vs q⟩
  | .dcT ks us, _, ⟨a, vs, e, n, s, l, q⟩ => ⟨a, vs, e, n, r.dT _ _ n s, l, imAll_kd r us vs q⟩
  | .dcN ks us, _, ⟨a, kvs, e, n, s, l, q1, q2⟩ => ⟨a, kvs, e, n, r.dN _ _ _ n s, l, imAll_kd r ks _ q1, imAll_kd r us _ q2⟩
  | .obj c ns us, _, ⟨a, dx, vs, e, n, s, l, q⟩ => ⟨a, dx, vs, e, n, r.ins _ _ _ _ n s, l, imAll_kd r us vs q⟩
  | .top _, _, h => h
  | .frl us, _, ⟨a, vs, e, s, q⟩ => ⟨a, vs, e, s.st r, imAll_kd r us vs q⟩
  | .loc _, _, h => h
  | .exc _, _, ⟨a, e, n, s⟩ => ⟨a, e, n, r.ext _ _ n s⟩
  | .exo _ _ u, _, ⟨a, d, w, e, n, n2, s, s2, q⟩ => ⟨a, d, w, e, n, n2, r.ext _ _ n s, r.xd _ _ n2 s2, im_kd r u w q⟩
theorem imAll_kd (r : Kd B H H') : ∀ (us : List U) (vs : List V), imAll G rs B us vs H → imAll G rs B us vs H'
  | [], _, h => h
  | u :: us, _, ⟨v, w, e, h1, h2⟩ => ⟨v, w, e, im_kd r u v h1, imAll_kd r us w h2⟩
end
theorem im_st (r : RB B H H') (u : U) (v : V) (h : im G rs B u v H) : im G rs B u v H' := im_kd (kd_of r) u v h
theorem imAll_st (r : RB B H H') (us : List U) (vs : List V) (h : imAll G rs B us vs H) : imAll G rs B us vs H' := imAll_kd (kd_of r) us vs h
mutual
theorem im_sub (s : ∀ a, H a ≠ none → B' a → B a) : ∀ (u : U) (v : V), im G rs B u v H → im G rs B' u v H
  | .non, _, h => h
  | .bl _, _, h => h
  | .int _, _, h => h
  | .str _, _, h => h
  | .tup us, _, ⟨a, vs, e, t, q⟩ => ⟨a, vs, e, t, imAll_sub s us vs q⟩
  | .lst us, _, ⟨a, vs, e, n, t, q⟩ => ⟨a, vs, e, fun b => n (s a (by rw [t]; exact fun z => nomatch z) b), t, imAll_sub s us vs q⟩
  | .dct ks us, _, ⟨a, vs, e, n, t, l, q⟩ => ⟨a, vs, e, fun b => n (s a (rd_ne t) b), t, l, imAll_sub s us vs q⟩
  | .dcT ks us, _, ⟨a, vs, e, n, t, l, q⟩ => ⟨a, vs, e, fun b => n (s a (rd_ne t) b), t, l, imAll_sub s us vs q⟩
  | .dcN ks us, _, ⟨a, kvs, e, n, t, l, q1, q2⟩ => ⟨a, kvs, e, fun b => n (s a (rd_ne t) b), t, l, imAll_sub s ks _ q1, imAll_sub s us _ q2⟩
  | .obj c ns us, _, ⟨a, dx, vs, e, n, t, l, q⟩ => ⟨a, dx, vs, e, fun b => n (s a (by rw [t]; exact fun z => nomatch z) b), t, l, imAll_sub s us vs q⟩
  | .top _, _, h => h
  | .frl us, _, ⟨a, vs, e, t, q⟩ => ⟨a, vs, e, t.sub s, imAll_sub s us vs q⟩
  | .loc _, _, h => h
  | .exc _, _, ⟨a, e, n, t⟩ => ⟨a, e, fun b => n (s a (rd_ne t) b), t⟩
  | .exo _ _ u, _, ⟨a, d, w, e, n, n2, t, t2, q⟩ => ⟨a, d, w, e, fun b => n (s a (rd_ne t) b), fun b => n2 (s d (rd_ne t2) b), t, t2, im_sub s u w q⟩
theorem imAll_sub (s : ∀ a, H a ≠ none → B' a → B a) : ∀ (us : List U) (vs : List V), imAll G rs B us vs H → imAll G rs B' us vs H
  | [], _, h => h
  | u :: us, _, ⟨v, w, e, h1, h2⟩ => ⟨v, w, e, im_sub s u v h1, imAll_sub s us w h2⟩
end
mutual
theorem im_rs (s : ∀ (i : Nat) (a : Addr), rs[i]? = some a → rs'[i]? = some a) : ∀ (u : U) (v : V), im G rs B u v H → im G rs' B u v H
  | .non, _, h => h
  | .bl _, _, h => h
  | .int _, _, h => h
  | .str _, _, h => h
  | .tup us, _, ⟨a, vs, e, t, q⟩ => ⟨a, vs, e, t, imAll_rs s us vs q⟩
  | .lst us, _, ⟨a, vs, e, n, t, q⟩ => ⟨a, vs, e, n, t, imAll_rs s us vs q⟩
  | .dct ks us, _, ⟨a, vs, e, n, t, l, q⟩ => ⟨a, vs, e, n, t, l, imAll_rs s us vs q⟩
  | .dcT ks us, _, ⟨a, vs, e, n, t, l, q⟩ => ⟨a, vs, e, n, t, l, imAll_rs s us vs q⟩
  | .dcN ks us, _, ⟨a, kvs, e, n, t, l, q1, q2⟩ => ⟨a, kvs, e, n, t, l, imAll_rs s ks _ q1, imAll_rs s us _ q2⟩
  | .obj c ns us, _, ⟨a, dx, vs, e, n, t, l, q⟩ => ⟨a, dx, vs, e, n, t, l, imAll_rs s us vs q⟩
  | .top _, _, h => h
  | .frl us, _, ⟨a, vs, e, t, q⟩ => ⟨a, vs, e, t, imAll_rs s us vs q⟩
  | .loc _, _, ⟨a, e, h⟩ => ⟨a, s _ _ e, h⟩
  | .exc _, _, h => h
  | .exo _ _ u, _, ⟨a, d, w, e, n, n2, t, t2, q⟩ => ⟨a, d, w, e, n, n2, t, t2, im_rs s u w q⟩
theorem imAll_rs (s : ∀ (i : Nat) (a : Addr), rs[i]? = some a → rs'[i]? = some a) : ∀ (us : List U) (vs : List V), imAll G rs B us vs H → imAll G rs' B us vs H
  | [], _, h => h
  | u :: us, _, ⟨v, w, e, h1, h2⟩ => ⟨v, w, e, im_rs s u v h1, imAll_rs s us w h2⟩
end
theorem imAll_len : ∀ {us : List U} {vs : List V}, imAll G rs B us vs H → vs.length = us.length
  | [], _, h => by rw [show _ = _ from h]; rfl
  | d :: ds, _, ⟨v, w, e, _, h2⟩ => by rw [e, List.length_cons, List.length_cons, imAll_len h2]
theorem imAll_get : ∀ {us : List U} {vs : List V} {i : Nat} {u : U}, imAll G rs B us vs H → us[i]? = some u → ∃ v, vs[i]? = some v ∧ im G rs B u v H
  | [], _, _, _, _, e => by simp at e
  | d :: ds, _, 0, d', ⟨v, w, e, h1, h2⟩, e' => by
    simp at e'; subst e' e; exact ⟨v, rfl, h1⟩
  | d :: ds, _, i + 1, d', ⟨v, w, e, h1, h2⟩, e' => by
    subst e
    obtain ⟨x, e1, e2⟩ := imAll_get (i := i) h2 (by simpa using e')
    exact ⟨x, by simpa using e1, e2⟩
theorem imAll_getV : ∀ {us : List U} {vs : List V} {i : Nat} {v : V}, imAll G rs B us vs H → vs[i]? = some v → ∃ u, us[i]? = some u ∧ im G rs B u v H
  | [], _, _, _, h, e => by rw [show _ = _ from h] at e; simp at e
  | d :: ds, _, 0, v', ⟨v, w, e, h1, h2⟩, e' => by
    subst e; simp at e'; subst e'; exact ⟨d, rfl, h1⟩
  | d :: ds, _, i + 1, v', ⟨v, w, e, h1, h2⟩, e' => by
    subst e
    obtain ⟨x, e1, e2⟩ := imAll_getV (i := i) h2 (by simpa using e')
    exact ⟨x, by simpa using e1, e2⟩
theorem imAll_append : ∀ {us us' : List U} {vs ws : List V}, imAll G rs B us vs H → imAll G rs B us' ws H → imAll G rs B (us ++ us') (vs ++ ws) H
  | [], _, _, _, h, h' => by rw [show _ = _ from h]; exact h'
  | d :: ds, es, _, ws, ⟨v, w, e, h1, h2⟩, h' => by
    subst e; exact ⟨v, w ++ ws, rfl, h1, imAll_append h2 h'⟩
theorem imAll_snoc {us : List U} {vs : List V} {u : U} {v : V} (h : imAll G rs B us vs H) (h' : im G rs B u v H) : imAll G rs B (us ++ [u]) (vs ++ [v]) H := imAll_append h ⟨v, [], rfl, h', rfl⟩
theorem imAll_take : ∀ {us : List U} {vs : List V} (n : Nat), imAll G rs B us vs H → imAll G rs B (us.take n) (vs.take n) H
  | _, _, 0, _ => rfl
  | [], _, n + 1, h => by rw [show _ = _ from h]; rfl
  | d :: ds, _, n + 1, ⟨v, w, e, h1, h2⟩ => by subst e; exact ⟨v, _, rfl, h1, imAll_take n h2⟩
theorem imAll_drop : ∀ {us : List U} {vs : List V} (n : Nat), imAll G rs B us vs H → imAll G rs B (us.drop n) (vs.drop n) H
  | _, _, 0, h => h
  | [], _, n + 1, h => by rw [show _ = _ from h]; rfl
  | d :: ds, _, n + 1, ⟨v, w, e, h1, h2⟩ => by subst e; exact imAll_drop n h2
theorem imAll_rep {us : List U} {vs : List V} (h : imAll G rs B us vs H) : ∀ n : Nat, imAll G rs B (List.replicate n us).flatten (List.replicate n vs).flatten H
  | 0 => rfl
  | n + 1 => by
    rw [List.replicate_succ, List.replicate_succ, List.flatten_cons, List.flatten_cons]
    exact imAll_append h (imAll_rep h n)
theorem imAll_set : ∀ {us : List U} {vs : List V} {i : Nat} {u : U} {v : V}, imAll G rs B us vs H → im G rs B u v H → imAll G rs B (us.set i u) (vs.set i v) H
  | [], _, _, _, _, h, _ => by rw [show _ = _ from h]; rfl
  | d :: ds, _, 0, u, v, ⟨v', w, e, h1, h2⟩, h => by subst e; exact ⟨v, w, rfl, h, h2⟩
  | d :: ds, _, i + 1, u, v, ⟨v', w, e, h1, h2⟩, h => by subst e; exact ⟨v', _, rfl, h1, imAll_set h2 h⟩
theorem imAll_erase : ∀ {us : List U} {vs : List V} (i : Nat), imAll G rs B us vs H → imAll G rs B (us.eraseIdx i) (vs.eraseIdx i) H
  | [], _, _, h => by rw [show _ = _ from h]; rfl
  | d :: ds, _, 0, ⟨v, w, e, h1, h2⟩ => by subst e; exact h2
  | d :: ds, _, i + 1, ⟨v, w, e, h1, h2⟩ => by subst e; exact ⟨v, _, rfl, h1, imAll_erase i h2⟩
theorem imAll_rev {us : List U} {vs : List V} (h : imAll G rs B us vs H) : imAll G rs B us.reverse vs.reverse H := by
  induction us generalizing vs with
  | nil => rw [show vs = [] from h]; rfl
  | cons u us ih =>
    obtain ⟨v, r, e, h1, h2⟩ := h
    subst e
    rw [List.reverse_cons, List.reverse_cons]
    exact imAll_snoc (ih h2) h1
end
mutual
def pd : U → Option PyData
  | .non => some .none
  | .bl b => some (.bool b)
  | .int i => some (.int i)
  | .str x => some (.str x)
  | .tup us => (pdAll us).map .tuple
  | .lst us => (pdAll us).map .list
  | .dct _ _ => none
  | .dcT _ _ => none
  | .dcN _ _ => none
  | .obj _ _ _ => none
  | .top _ => none
  | .frl us => (pdAll us).map .list
  | .loc _ => none
  | .exc _ => none
  | .exo _ _ _ => none
def pdAll : List U → Option (List PyData)
  | [] => some []
  | u :: us => match pd u, pdAll us with
    | some d, some ds => some (d :: ds)
    | _, _ => none
end
section
variable {G : Cxt} {rs : List Addr} {B B' : Bn} {H H' : Hp}
mutual
theorem im_dp : ∀ (u : U) (v : V) (d : PyData), im G rs B u v H → pd u = some d → Dp G.K H v d
  | .non, _, _, h, e => by cases h; cases e; exact .non
  | .bl _, _, _, h, e => by cases h; cases e; exact .bl _
  | .int _, _, _, h, e => by cases h; cases e; exact .int _
  | .str _, _, _, h, e => by cases h; cases e; exact .str _
  | .tup us, _, d, ⟨a, vs, e, s, q⟩, e' => by
    subst e
    obtain ⟨ds, e1, rfl⟩ := Option.map_eq_some_iff.mp (show (pdAll us).map .tuple = some d from e')
    exact .tup (EL.sqT_of s) (imAll_dp us vs ds q e1)
  | .lst us, _, d, ⟨a, vs, e, _, s, q⟩, e' => by
    subst e
    obtain ⟨ds, e1, rfl⟩ := Option.map_eq_some_iff.mp (show (pdAll us).map .list = some d from e')
    exact .lst (.inl (.inl s)) (imAll_dp us vs ds q e1)
  | .dct _ _, _, _, _, e' => by cases e'
  | .dcT _ _, _, _, _, e' => by cases e'
  | .dcN _ _, _, _, _, e' => by cases e'
  | .obj _ _ _, _, _, _, e' => by cases e'
  | .top _, _, _, _, e' => by cases e'
  | .frl us, _, d, ⟨a, vs, e, s, q⟩, e' => by
    subst e
    obtain ⟨ds, e1, rfl⟩ := Option.map_eq_some_iff.mp (show (pdAll us).map .list = some d from e')
    exact .lst s.sq (imAll_dp us vs ds q e1)
  | .loc _, _, _, _, e' => by cases e'
  | .exc _, _, _, _, e' => by cases e'
  | .exo _ _ _, _, _, _, e' => by cases e'
theorem imAll_dp : ∀ (us : List U) (vs : List V) (ds : List PyData), imAll G rs B us vs H → pdAll us = some ds → DpAll G.K H vs ds
  | [], _, _, h, e => by rw [show _ = _ from h]; cases e; exact .nil
  | u :: us, _, ds, ⟨v, w, e, h1, h2⟩, e' => by
    subst e
    rw [pdAll] at e'
    cases e1 : pd u with
    | none => rw [e1] at e'; cases e'
    | some d =>
      cases e2 : pdAll us with
      | none => rw [e1, e2] at e'; cases e'
      | some ds => rw [e1, e2] at e'; cases e'; exact .cons (im_dp u v d h1 e1) (imAll_dp us w ds h2 e2)
end
end
inductive Sh where
  | leaf | lst (s : Sh) | dct (s : Sh) | tup (f : Nat → Sh) | obj (f : Str → Sh)
def ownZ (P : Nat → U → V → Hp → List Addr → Prop) : Nat → List U → List V → Hp → List Addr → Prop
  | _, [], vs, _, A => vs = [] ∧ A = []
  | n, u :: us, vs, H, A => ∃ v r A1 A2, vs = v :: r ∧ A = A1 ++ A2 ∧ P n u v H A1 ∧ ownZ P (n + 1) us r H A2
def ownD (G : Cxt) (rs : List Addr) (B : Bn) : Sh → U → V → Hp → List Addr → Prop
  | .leaf, u, v, H, A => A = [] ∧ im G rs B u v H
  | .lst s, .lst us, v, H, A => ∃ a vs A', v = .ref a ∧ A = a :: A' ∧ H a = some (.lst vs) ∧ ownZ (fun _ => ownD G rs B s) 0 us vs H A'
  | .dct s, .dct ks us, v, H, A => ∃ a vs A', v = .ref a ∧ A = a :: A' ∧ H a = some (.dK (ks.zip vs)) ∧ ks.length = us.length ∧ ownZ (fun _ => ownD G rs B s) 0 us vs H A'
  | .dct s, .dcT ks us, v, H, A => ∃ a vs A', v = .ref a ∧ A = a :: A' ∧ H a = some (.dT (ks.zip vs)) ∧ ks.length = us.length ∧ ownZ (fun _ => ownD G rs B s) 0 us vs H A'
  | .dct s, .dcN ks us, v, H, A => ∃ a kvs A', v = .ref a ∧ A = a :: A' ∧ H a = some (DNo a kvs) ∧ nk8s ks = some (kvs.map (·.1)) ∧ imAll G rs B ks (nkA kvs) H ∧ ownZ (fun _ => ownD G rs B s) 0 us (nkV kvs) H A'
  | .tup f, .tup us, v, H, A => ∃ a vs, v = .ref a ∧ H a = some (.tup vs) ∧ ownZ (fun n => ownD G rs B (f n)) 0 us vs H A
  | .obj f, .obj c ns us, v, H, A => ∃ a dx vs A', v = .ref a ∧ A = a :: A' ∧ H a = some (.ins (G.at_ c) dx (ns.zip vs)) ∧ ns.length = us.length ∧ ownZ (fun n => ownD G rs B (f (ns.getD n ""))) 0 us vs H A'
  | _, _, _, _, _ => False
section
variable {G : Cxt} {rs rs' : List Addr} {B B' : Bn} {H H' : Hp}
theorem ownZ_mono {P P' : Nat → U → V → Hp → List Addr → Prop} : ∀ {us : List U} {n : Nat} {vs : List V} {A : List Addr}, (∀ n u v A1, (∀ a ∈ A1, a ∈ A) → P n u v H A1 → P' n u v H' A1) → ownZ P n us vs H A → ownZ P' n us vs H' A
  | [], _, _, _, _, h => h
  | u :: us, n, _, _, f, ⟨v, r, A1, A2, e1, e2, h1, h2⟩ => ⟨v, r, A1, A2, e1, e2, f n u v A1 (fun a m => by rw [e2]; exact List.mem_append_left _ m) h1,
      ownZ_mono (fun n u v A3 s p => f n u v A3 (fun a m => by rw [e2]; exact List.mem_append_right _ (s a m)) p) h2⟩
theorem ownZ_len {P : Nat → U → V → Hp → List Addr → Prop} : ∀ {us : List U} {n : Nat} {vs : List V} {A : List Addr}, ownZ P n us vs H A → vs.length = us.length
  | [], _, _, _, h => by rw [h.1]; rfl
  | u :: us, n, _, _, ⟨v, r, A1, A2, e1, e2, h1, h2⟩ => by rw [e1, List.length_cons, List.length_cons, ownZ_len h2]
theorem imAll_mono (hk : ∀ u v, im G rs B u v H → im G rs' B' u v H') : ∀ (us : List U) (vs : List V), imAll G rs B us vs H → imAll G rs' B' us vs H'
  | [], _, h => h
  | u :: us, _, ⟨v, w, e, h1, h2⟩ => ⟨v, w, e, hk u v h1, imAll_mono hk us w h2⟩
theorem own_mono (hk : ∀ u v, im G rs B u v H → im G rs' B' u v H') (ht : ∀ a xs, H a = some (.tup xs) → H' a = some (.tup xs)) : ∀ (s : Sh) (u : U) (v : V) (A : List Addr), (∀ a ∈ A, H' a = H a) → ownD G rs B s u v H A → ownD G rs' B' s u v H' A
  | .leaf, u, v, A, _, h => ⟨h.1, hk u v h.2⟩
  | .lst s, .lst us, v, A, k, ⟨a, vs, A', e1, e2, h, q⟩ => ⟨a, vs, A', e1, e2, by rw [k a (by rw [e2]; exact List.mem_cons_self)]; exact h,
      ownZ_mono (fun n u v A1 m p => own_mono hk ht s u v A1 (fun a z => k a (by rw [e2]; exact List.mem_cons_of_mem _ (m a z))) p) q⟩
  | .dct s, .dct ks us, v, A, k, ⟨a, vs, A', e1, e2, h, l, q⟩ => ⟨a, vs, A', e1, e2, by rw [k a (by rw [e2]; exact List.mem_cons_self)]; exact h, l,
      ownZ_mono (fun n u v A1 m p => own_mono hk ht s u v A1 (fun a z => k a (by rw [e2]; exact List.mem_cons_of_mem _ (m a z))) p) q⟩
  | .dct s, .dcT ks us, v, A, k, ⟨a, vs, A', e1, e2, h, l, q⟩ => ⟨a, vs, A', e1, e2, by rw [k a (by rw [e2]; exact List.mem_cons_self)]; exact h, l,
      ownZ_mono (fun n u v A1 m p => own_mono hk ht s u v A1 (fun a z => k a (by rw [e2]; exact List.mem_cons_of_mem _ (m a z))) p) q⟩
  | .dct s, .dcN ks us, v, A, k, ⟨a, kvs, A', e1, e2, h, l, q1, q⟩ => ⟨a, kvs, A', e1, e2, by rw [k a (by rw [e2]; exact List.mem_cons_self)]; exact h, l, imAll_mono hk ks _ q1,
      ownZ_mono (fun n u v A1 m p => own_mono hk ht s u v A1 (fun a z => k a (by rw [e2]; exact List.mem_cons_of_mem _ (m a z))) p) q⟩
  | .tup f, .tup us, v, A, k, ⟨a, vs, e1, h, q⟩ => ⟨a, vs, e1, ht _ _ h,
      ownZ_mono (fun n u v A1 m p => own_mono hk ht (f n) u v A1 (fun a z => k a (m a z)) p) q⟩
  | .obj f, .obj c ns us, v, A, k, ⟨a, dx, vs, A', e1, e2, h, l, q⟩ => ⟨a, dx, vs, A', e1, e2, by rw [k a (by rw [e2]; exact List.mem_cons_self)]; exact h, l,
      ownZ_mono (fun n u v A1 m p => own_mono hk ht (f (ns.getD n "")) u v A1 (fun a z => k a (by rw [e2]; exact List.mem_cons_of_mem _ (m a z))) p) q⟩
theorem ownZ_leaf {us : List U} {n : Nat} {vs : List V} {A : List Addr} {f : Nat → Sh} (hf : ∀ n, f n = .leaf) : ownZ (fun n => ownD G rs B (f n)) n us vs H A ↔ A = [] ∧ imAll G rs B us vs H := by
  induction us generalizing n vs A with
  | nil => exact ⟨fun h => ⟨h.2, h.1⟩, fun h => ⟨h.2, h.1⟩⟩
  | cons u us ih =>
    constructor
    · rintro ⟨v, r, A1, A2, e1, e2, h1, h2⟩
      rw [hf n] at h1
      obtain ⟨z, h1⟩ := h1
      obtain ⟨z2, h2⟩ := ih.mp h2
      exact ⟨by rw [e2, z, z2]; rfl, v, r, e1, h1, h2⟩
    · rintro ⟨e, v, r, e1, h1, h2⟩
      exact ⟨v, r, [], [], e1, e, by show ownD G rs B (f n) u v H []; rw [hf n]; exact ⟨rfl, h1⟩, ih.mpr ⟨rfl, h2⟩⟩
theorem own_lst {us : List U} {v : V} {A : List Addr} : ownD G rs B (.lst .leaf) (.lst us) v H A ↔ ∃ a vs, v = .ref a ∧ A = [a] ∧ H a = some (.lst vs) ∧ imAll G rs B us vs H := by
  constructor
  · rintro ⟨a, vs, A', e1, e2, h, q⟩
    obtain ⟨z, q⟩ := (ownZ_leaf (f := fun _ => .leaf) fun _ => rfl).mp q
    exact ⟨a, vs, e1, by rw [e2, z], h, q⟩
  · rintro ⟨a, vs, e1, e2, h, q⟩
    exact ⟨a, vs, [], e1, e2, h, (ownZ_leaf (f := fun _ => .leaf) fun _ => rfl).mpr ⟨rfl, q⟩⟩
theorem own_dct {ks : List Key} {us : List U} {v : V} {A : List Addr} : ownD G rs B (.dct .leaf) (.dct ks us) v H A ↔ ∃ a vs, v = .ref a ∧ A = [a] ∧ H a = some (.dK (ks.zip vs)) ∧ ks.length = us.length ∧ imAll G rs B us vs H := by
  constructor
  · rintro ⟨a, vs, A', e1, e2, h, l, q⟩
    obtain ⟨z, q⟩ := (ownZ_leaf (f := fun _ => .leaf) fun _ => rfl).mp q
    exact ⟨a, vs, e1, by rw [e2, z], h, l, q⟩
  · rintro ⟨a, vs, e1, e2, h, l, q⟩
    exact ⟨a, vs, [], e1, e2, h, l, (ownZ_leaf (f := fun _ => .leaf) fun _ => rfl).mpr ⟨rfl, q⟩⟩
theorem own_dcT {ks : List (List Key)} {us : List U} {v : V} {A : List Addr} : ownD G rs B (.dct .leaf) (.dcT ks us) v H A ↔ ∃ a vs, v = .ref a ∧ A = [a] ∧ H a = some (.dT (ks.zip vs)) ∧ ks.length = us.length ∧ imAll G rs B us vs H := by
  constructor
  · rintro ⟨a, vs, A', e1, e2, h, l, q⟩
    obtain ⟨z, q⟩ := (ownZ_leaf (f := fun _ => .leaf) fun _ => rfl).mp q
    exact ⟨a, vs, e1, by rw [e2, z], h, l, q⟩
  · rintro ⟨a, vs, e1, e2, h, l, q⟩
    exact ⟨a, vs, [], e1, e2, h, l, (ownZ_leaf (f := fun _ => .leaf) fun _ => rfl).mpr ⟨rfl, q⟩⟩
theorem own_dcN {ks us : List U} {v : V} {A : List Addr} : ownD G rs B (.dct .leaf) (.dcN ks us) v H A ↔ ∃ a kvs, v = .ref a ∧ A = [a] ∧ H a = some (DNo a kvs) ∧ nk8s ks = some (kvs.map (·.1)) ∧ imAll G rs B ks (nkA kvs) H ∧ imAll G rs B us (nkV kvs) H := by
  constructor
  · rintro ⟨a, vs, A', e1, e2, h, l, q1, q⟩
    obtain ⟨z, q⟩ := (ownZ_leaf (f := fun _ => .leaf) fun _ => rfl).mp q
    exact ⟨a, vs, e1, by rw [e2, z], h, l, q1, q⟩
  · rintro ⟨a, vs, e1, e2, h, l, q1, q⟩
    exact ⟨a, vs, [], e1, e2, h, l, q1, (ownZ_leaf (f := fun _ => .leaf) fun _ => rfl).mpr ⟨rfl, q⟩⟩
end
section
variable (G : Cxt) (rs : List Addr) (B : Bn)
mutual
def ownF : U → V → Hp → List Addr → Prop
  | .lst us, v, H, A => ∃ a vs A', v = .ref a ∧ A = a :: A' ∧ H a = some (.lst vs) ∧ ownFs us vs H A'
  | .dct ks us, v, H, A => ∃ a vs A', v = .ref a ∧ A = a :: A' ∧ H a = some (.dK (ks.zip vs)) ∧ ks.length = us.length ∧ ownFs us vs H A'
  | .dcT ks us, v, H, A => ∃ a vs A', v = .ref a ∧ A = a :: A' ∧ H a = some (.dT (ks.zip vs)) ∧ ks.length = us.length ∧ ownFs us vs H A'
  | .non, v, H, A => A = [] ∧ im G rs B .non v H
  | .bl b, v, H, A => A = [] ∧ im G rs B (.bl b) v H
  | .int i, v, H, A => A = [] ∧ im G rs B (.int i) v H
  | .str x, v, H, A => A = [] ∧ im G rs B (.str x) v H
  | .tup us, v, H, A => A = [] ∧ im G rs B (.tup us) v H
  | .obj c ns us, v, H, A => A = [] ∧ im G rs B (.obj c ns us) v H
  | .dcN ks us, v, H, A => A = [] ∧ im G rs B (.dcN ks us) v H
  | .top x, v, H, A => A = [] ∧ im G rs B (.top x) v H
  | .frl us, v, H, A => A = [] ∧ im G rs B (.frl us) v H
  | .loc i, v, H, A => A = [] ∧ im G rs B (.loc i) v H
  | .exc c, v, H, A => A = [] ∧ im G rs B (.exc c) v H
  | .exo c f u, v, H, A => A = [] ∧ im G rs B (.exo c f u) v H
def ownFs : List U → List V → Hp → List Addr → Prop
  | [], vs, _, A => vs = [] ∧ A = []
  | u :: us, vs, H, A => ∃ v r A1 A2, vs = v :: r ∧ A = A1 ++ A2 ∧ ownF u v H A1 ∧ ownFs us r H A2
end
def ownC : U → V → Hp → List Addr → Prop
  | .obj c ns us, v, H, A => (∃ a dx vs A', v = .ref a ∧ A = a :: A' ∧ H a = some (.ins (G.at_ c) dx (ns.zip vs)) ∧ ns.length = us.length ∧ ownFs G rs B us vs H A')
  | u, v, H, A => ownF G rs B u v H A
end
section
variable {G : Cxt} {rs rs' : List Addr} {B B' : Bn} {H H' : Hp}
mutual
theorem ownF_mono (hk : ∀ u v, im G rs B u v H → im G rs' B' u v H') : ∀ (u : U) (v : V) (A : List Addr), (∀ a ∈ A, H' a = H a) → ownF G rs B u v H A → ownF G rs' B' u v H' A
  | .lst us, v, A, k, ⟨a, vs, A', e1, e2, h, q⟩ => ⟨a, vs, A', e1, e2, by rw [k a (by rw [e2]; exact List.mem_cons_self)]; exact h, ownFs_mono hk us vs A' (fun b m => k b (by rw [e2]; exact List.mem_cons_of_mem _ m)) q⟩
  | .dct ks us, v, A, k, ⟨a, vs, A', e1, e2, h, l, q⟩ => ⟨a, vs, A', e1, e2, by rw [k a (by rw [e2]; exact List.mem_cons_self)]; exact h, l, ownFs_mono hk us vs A' (fun b m => k b (by rw [e2]; exact List.mem_cons_of_mem _ m)) q⟩
  | .dcT ks us, v, A, k, ⟨a, vs, A', e1, e2, h, l, q⟩ => ⟨a, vs, A', e1, e2, by rw [k a (by rw [e2]; exact List.mem_cons_self)]; exact h, l, ownFs_mono hk us vs A' (fun b m => k b (by rw [e2]; exact List.mem_cons_of_mem _ m)) q⟩
  | .non, v, A, _, h => ⟨h.1, hk _ _ h.2⟩
  | .bl _, v, A, _, h => ⟨h.1, hk _ _ h.2⟩
  | .int _, v, A, _, h => ⟨h.1, hk _ _ h.2⟩
  | .str _, v, A, _, h => ⟨h.1, hk _ _ h.2⟩
  | .tup _, v, A, _, h => ⟨h.1, hk _ _ h.2⟩
  | .obj _ _ _, v, A, _, h => ⟨h.1, hk _ _ h.2⟩
  | .dcN _ _, v, A, _, h => ⟨h.1, hk _ _ h.2⟩
  | .top _, v, A, _, h => ⟨h.1, hk _ _ h.2⟩
  | .frl _, v, A, _, h => ⟨h.1, hk _ _ h.2⟩
  | .loc _, v, A, _, h => ⟨h.1, hk _ _ h.2⟩
  | .exc _, v, A, _, h => ⟨h.1, hk _ _ h.2⟩
  | .exo _ _ _, v, A, _, h => ⟨h.1, hk _ _ h.2⟩
theorem ownFs_mono (hk : ∀ u v, im G rs B u v H → im G rs' B' u v H') : ∀ (us : List U) (vs : List V) (A : List Addr), (∀ a ∈ A, H' a = H a) → ownFs G rs B us vs H A → ownFs G rs' B' us vs H' A
  | [], _, _, _, h => h
  | u :: us, _, A, k, ⟨v, r, A1, A2, e1, e2, h1, h2⟩ => ⟨v, r, A1, A2, e1, e2, ownF_mono hk u v A1 (fun a m => k a (by rw [e2]; exact List.mem_append_left _ m)) h1, ownFs_mono hk us r A2 (fun a m => k a (by rw [e2]; exact List.mem_append_right _ m)) h2⟩
end
theorem ownC_mono (hk : ∀ u v, im G rs B u v H → im G rs' B' u v H') : ∀ (u : U) (v : V) (A : List Addr), (∀ a ∈ A, H' a = H a) → ownC G rs B u v H A → ownC G rs' B' u v H' A
  | .obj c ns us, v, A, k, ⟨a, dx, vs, A', e1, e2, h, l, q⟩ => ⟨a, dx, vs, A', e1, e2, by rw [k a (by rw [e2]; exact List.mem_cons_self)]; exact h, l, ownFs_mono hk us vs A' (fun b m => k b (by rw [e2]; exact List.mem_cons_of_mem _ m)) q⟩
  | .lst us, v, A, k, h => ownF_mono hk (.lst us) v A k h
  | .dct ks us, v, A, k, h => ownF_mono hk (.dct ks us) v A k h
  | .dcT ks us, v, A, k, h => ownF_mono hk (.dcT ks us) v A k h
  | .dcN ks us, v, A, k, h => ownF_mono hk (.dcN ks us) v A k h
  | .non, v, A, k, h => ownF_mono hk .non v A k h
  | .bl b, v, A, k, h => ownF_mono hk (.bl b) v A k h
  | .int i, v, A, k, h => ownF_mono hk (.int i) v A k h
  | .str x, v, A, k, h => ownF_mono hk (.str x) v A k h
  | .tup us, v, A, k, h => ownF_mono hk (.tup us) v A k h
  | .top x, v, A, k, h => ownF_mono hk (.top x) v A k h
  | .frl us, v, A, k, h => ownF_mono hk (.frl us) v A k h
  | .loc i, v, A, k, h => ownF_mono hk (.loc i) v A k h
  | .exc i, v, A, k, h => ownF_mono hk (.exc i) v A k h
  | .exo c f u, v, A, k, h => ownF_mono hk (.exo c f u) v A k h
theorem ownFs_len : ∀ {us : List U} {vs : List V} {A : List Addr}, ownFs G rs B us vs H A → vs.length = us.length
  | [], _, _, h => by rw [h.1]; rfl
  | u :: us, _, _, ⟨v, r, A1, A2, e1, e2, h1, h2⟩ => by rw [e1, List.length_cons, List.length_cons, ownFs_len h2]
theorem ownFs_split : ∀ {us : List U} {j : Nat} {vs : List V} {A : List Addr} {u : U}, ownFs G rs B us vs H A → us[j]? = some u → ∃ v A1 A' A2, vs[j]? = some v ∧ A = A1 ++ (A' ++ A2) ∧ ownF G rs B u v H A' ∧
    ∀ (rs2 : List Addr) (B2 : Bn) H2 u2 A'2, (∀ u v, im G rs B u v H → im G rs2 B2 u v H2) → (∀ a, a ∈ A1 ∨ a ∈ A2 → H2 a = H a) → ownF G rs2 B2 u2 v H2 A'2 → ownFs G rs2 B2 (us.set j u2) vs H2 (A1 ++ (A'2 ++ A2))
  | [], _, _, _, _, _, e => by simp at e
  | x :: us, 0, _, _, u, ⟨v, r, A1, A2, e1, e2, h1, h2⟩, e => by
    simp at e; subst e e1 e2
    exact ⟨v, [], A1, A2, rfl, rfl, h1, fun rs2 B2 H2 u2 A'2 t k p => ⟨v, r, A'2, A2, rfl, rfl, p, ownFs_mono t us r A2 (fun a m => k a (.inr m)) h2⟩⟩
  | x :: us, j + 1, _, _, u, ⟨v, r, A1, A2, e1, e2, h1, h2⟩, e => by
    obtain ⟨v', B1, B', B2, f1, f2, f3, f4⟩ := ownFs_split (j := j) h2 (by simpa using e)
    subst e1 e2 f2
    refine ⟨v', A1 ++ B1, B', B2, by simpa using f1, by simp, f3, fun rs2 B2' H2 u2 A'2 t k p => ?_⟩
    exact ⟨v, r, A1, B1 ++ (A'2 ++ B2), rfl, by simp, ownF_mono t x v A1 (fun a m => k a (.inl (List.mem_append_left _ m))) h1, f4 rs2 B2' H2 u2 A'2 t (fun a z => k a (z.imp (fun z => List.mem_append_right _ z) id)) p⟩
end
abbrev Sto := List U
inductive Res (α : Type) where
  | ok (a : α) | er (e : U)
def M (α : Type) := Sto → Option (Res α × Sto)
namespace M
def ret {α : Type} (a : α) : M α := fun st => some (.ok a, st)
def fail {α : Type} : M α := fun _ => none
def bind {α β : Type} (w : M α) (f : α → M β) : M β := fun st => match w st with
  | some (.ok a, st') => f a st'
  | some (.er e, st') => some (.er e, st')
  | none => none
def o {α : Type} : Option α → M α
  | some a => ret a
  | none => fail
section
variable {α β γ : Type}
@[simp] theorem bind_ret (a : α) (f : α → M β) : bind (ret a) f = f a := rfl
@[simp] theorem bind_fail (f : α → M β) : bind fail f = fail := rfl
@[simp] theorem bind_bind (w : M α) (f : α → M β) (g : β → M γ) : bind (bind w f) g = bind w fun a => bind (f a) g := by
  funext st
  unfold bind
  cases w st with
  | none => rfl
  | some p =>
    obtain ⟨r, st'⟩ := p
    cases r <;> rfl
@[simp] theorem bind_ret' (w : M α) : bind w ret = w := by
  funext st
  unfold bind ret
  cases w st with
  | none => rfl
  | some p =>
    obtain ⟨r, st'⟩ := p
    cases r <;> rfl
@[simp] theorem o_some (a : α) : o (some a) = ret a := rfl
@[simp] theorem o_none : o (none : Option α) = fail := rfl
theorem bind_inv {w : M α} {f : α → M β} {st st' : Sto} {b : β} (h : bind w f st = some (.ok b, st')) : ∃ a st1, w st = some (.ok a, st1) ∧ f a st1 = some (.ok b, st') := by
  unfold bind at h
  cases e : w st with
  | none => rw [e] at h; cases h
  | some p =>
    obtain ⟨r, st1⟩ := p
    rw [e] at h
    cases r with
    | ok a => exact ⟨a, st1, rfl, h⟩
    | er _ => cases h
theorem o_inv {x : Option α} {b : α} {st st' : Sto} (h : o x st = some (.ok b, st')) : x = some b ∧ st' = st := by
  cases x with
  | none => cases h
  | some a => cases h; exact ⟨rfl, rfl⟩
end
end M
abbrev SA := List (Addr × List Addr)
def fl (as : SA) : List Addr := (as.map (·.2)).flatten
def rts (as : SA) : List Addr := as.map (·.1)
structure Go (as as' : SA) (H H' : Hp) : Prop where
  rb : RB (· ∈ fl as) H H'
  pre : ∀ (i : Nat) (a : Addr), (rts as)[i]? = some a → (rts as')[i]? = some a
  new : ∀ a ∈ fl as', a ∈ fl as ∨ H a = none
theorem rb_alive {B : Bn} {H H' : Hp} (r : RB B H H') {a : Addr} (h : H a ≠ none) : H' a ≠ none := by
  rcases Classical.em (B a) with b | b
  · exact r.ban a b h
  · cases e : H a with
    | none => exact absurd e h
    | some o => rw [r.keep a o b e]; exact fun z => nomatch z
theorem Go.refl (as : SA) (H : Hp) : Go as as H H := ⟨RB.refl H, fun _ _ h => h, fun _ h => .inl h⟩
theorem Go.trans {as as1 as2 : SA} {H H1 H2 : Hp} (a : Go as as1 H H1) (b : Go as1 as2 H1 H2) : Go as as2 H H2 := by
  refine ⟨⟨fun x o n h => ?_, fun x xs h => b.rb.tup _ _ (a.rb.tup _ _ h), fun x o u h => b.rb.frz _ _ _ (a.rb.frz _ _ _ h), fun x _ h => rb_alive b.rb (rb_alive a.rb h)⟩, fun i x h => b.pre i x (a.pre i x h), fun x h => ?_⟩
  · refine b.rb.keep x o (fun m => ?_) (a.rb.keep x o n h)
    rcases a.new x m with z | z
    · exact n z
    · rw [h] at z; cases z
  · rcases b.new x h with z | z
    · exact a.new x z
    · rcases Classical.em (H x = none) with q | q
      · exact .inr q
      · exact absurd z (rb_alive a.rb q)
theorem Go.of_ex {as : SA} {H H' : Hp} (e : Ex H H') : Go as as H H' := ⟨RB.of_ex e, fun _ _ h => h, fun _ h => .inl h⟩
theorem Go.alive {as as' : SA} {H H' : Hp} (g : Go as as' H H') {a : Addr} (h : H a ≠ none) : H' a ≠ none := rb_alive g.rb h
theorem Go.fresh {as as' : SA} {H H' : Hp} (g : Go as as' H H') {a : Addr} (h : H' a = none) : H a = none := by
  rcases Classical.em (H a = none) with q | q
  · exact q
  · exact absurd h (g.alive q)
structure Fr where
  G : Cxt
  B : Bn
  H0 : Hp
  as0 : SA
  R : SA → Sto → Hp → U → V → Prop
def noR : SA → Sto → Hp → U → V → Prop := fun _ _ _ _ _ => True
abbrev Os := List (Nat × List Addr)
def flo (os : Os) : List Addr := (os.map (·.2)).flatten
def ban (F : Fr) (os : Os) (as : SA) : Bn := fun a => F.B a ∨ a ∈ flo os ∨ a ∈ fl as
inductive SV where
  | im (u : U)
  | own (s : Sh) (u : U)
  | raw (v : V)
abbrev Dl := List (Option SV)
def SVok (F : Fr) (os : Os) (as : SA) (i : Nat) : SV → V → Hp → Prop
  | .im u, v, H => im F.G (rts as) (ban F os as) u v H
  | .own s u, v, H => ∃ A, (i, A) ∈ os ∧ ownD F.G (rts as) (ban F os as) s u v H A
  | .raw x, v, _ => v = x
def StOk (G : Cxt) (B : Bn) (rs : List Addr) : SA → Sto → Hp → Prop
  | [], [], _ => True
  | p :: as, u :: st, H => ownC G rs B u (.ref p.1) H p.2 ∧ StOk G B rs as st H
  | _, _, _ => False
structure SDo (F : Fr) (os : Os) (as : SA) (st : Sto) (γ : List (U × V)) (H : Hp) (σ : L2.St) (δ : Dl) : Prop where
  gh : ∀ p ∈ γ, im F.G (rts as) (ban F os as) p.1 p.2 H
  rel : Go F.as0 as F.H0 H
  ok : BOk (ban F os as) H
  nd : (flo os ++ fl as).Nodup
  ix : (os.map (·.1)).Nodup
  new : ∀ a ∈ flo os, F.H0 a = none
  nb : ∀ a, a ∈ flo os ∨ a ∈ fl as → ¬ F.B a
  sto : StOk F.G (ban F os as) (rts as) as st H
  len : σ.length = δ.length
  at_ : ∀ i s, δ[i]? = some (some s) → ∃ v, σ[i]? = some (some v) ∧ SVok F os as i s v H
section
variable {F : Fr} {os : Os} {as as' : SA} {st : Sto} {γ : List (U × V)} {H H' : Hp} {σ : L2.St} {δ : Dl} {v : V} {u : U} {i : Nat}
theorem mem_flo {i : Nat} {A : List Addr} (m : (i, A) ∈ os) {a : Addr} (h : a ∈ A) : a ∈ flo os := List.mem_flatten.mpr ⟨A, List.mem_map_of_mem (f := (·.2)) m, h⟩
theorem mem_fl {p : Addr × List Addr} (m : p ∈ as) {a : Addr} (h : a ∈ p.2) : a ∈ fl as := List.mem_flatten.mpr ⟨p.2, List.mem_map_of_mem (f := (·.2)) m, h⟩
theorem im_go (g : Go as as' H H') {u : U} {v : V} (h : im F.G (rts as) (ban F os as) u v H) : im F.G (rts as') (ban F os as') u v H' := by
  have h1 : im F.G (rts as) (UX.ban F os as') u v H := im_sub (fun a n b => by
    rcases b with b | b | b
    · exact .inl b
    · exact .inr (.inl b)
    · rcases g.new a b with z | z
      · exact .inr (.inr z)
      · exact absurd z n) _ _ h
  have h2 := im_rs g.pre _ _ h1
  have h3 : im F.G (rts as') (fun a => UX.ban F os as' a ∨ a ∈ fl as) u v H := im_sub (B := UX.ban F os as) (fun a n b => by
    rcases b with (b | b | b) | b
    · exact .inl b
    · exact .inr (.inl b)
    · rcases g.new a b with z | z
      · exact .inr (.inr z)
      · exact absurd z n
    · exact .inr (.inr b)) _ _ (im_rs g.pre _ _ h)
  have h4 := im_st (g.rb.sub fun a m => Or.inr m) _ _ h3
  exact im_sub (fun a _ b => .inl b) _ _ h4
theorem imAll_go (g : Go as as' H H') : ∀ {us : List U} {vs : List V}, imAll F.G (rts as) (ban F os as) us vs H → imAll F.G (rts as') (ban F os as') us vs H'
  | [], _, h => h
  | u :: us, _, ⟨v, w, e, h1, h2⟩ => ⟨v, w, e, im_go g h1, imAll_go g h2⟩
theorem sqT_go (g : Go as as' H H') {a : Addr} {xs : List V} (h : H a = some (.tup xs)) : H' a = some (.tup xs) := g.rb.tup _ _ h
theorem own_go (g : Go as as' H H') {s : Sh} {u : U} {v : V} {A : List Addr} (h : ownD F.G (rts as) (ban F os as) s u v H A) (k : ∀ a ∈ A, a ∉ fl as) (al : ∀ a ∈ A, H a ≠ none) : ownD F.G (rts as') (ban F os as') s u v H' A :=
  own_mono (fun _ _ h => im_go g h) (fun _ _ h => sqT_go g h) s u v A (fun a m => by
    cases e : H a with
    | none => exact absurd e (al a m)
    | some o => exact g.rb.keep a o (k a m) e) h
theorem SVok.go (g : Go as as' H H') (nd : (flo os ++ fl as).Nodup) (ok : BOk (ban F os as) H) : ∀ {s : SV}, SVok F os as i s v H → SVok F os as' i s v H'
  | .im u, h => im_go g h
  | .own s u, ⟨A, m, h⟩ => ⟨A, m, own_go g h (fun a z => fun q => (List.nodup_append.mp nd).2.2 a (mem_flo m z) a q rfl) fun a z => ok a (.inr (.inl (mem_flo m z)))⟩
  | .raw x, h => h
theorem SDo.go {st' : Sto} (s : SDo F os as st γ H σ δ) (g : Go as as' H H') (nd' : (fl as').Nodup) (sto' : StOk F.G (ban F os as') (rts as') as' st' H') (al : ∀ a ∈ fl as', H' a ≠ none) : SDo F os as' st' γ H' σ δ := by
  have dis : ∀ a ∈ flo os, a ∉ fl as' := fun a m q => by
    rcases g.new a q with z | z
    · exact (List.nodup_append.mp s.nd).2.2 a m a z rfl
    · exact s.ok a (.inr (.inl m)) z
  refine ⟨fun p m => im_go g (s.gh p m), s.rel.trans g, fun a b => ?_, List.nodup_append.mpr ⟨(List.nodup_append.mp s.nd).1, nd', fun a m b q e => dis a m (e ▸ q)⟩, s.ix, s.new, fun a z => ?_, sto', s.len, fun i x e => ?_⟩
  · rcases b with b | b | b
    · exact g.alive (s.ok a (.inl b))
    · exact g.alive (s.ok a (.inr (.inl b)))
    · exact al a b
  · rcases z with z | z
    · exact s.nb a (.inl z)
    · rcases g.new a z with q | q
      · exact s.nb a (.inr q)
      · exact fun b => s.ok a (.inl b) q
  · obtain ⟨v, h1, h2⟩ := s.at_ i x e
    exact ⟨v, h1, h2.go g s.nd s.ok⟩
theorem StOk.mono {G : Cxt} {B B' : Bn} {rs rs' : List Addr} (hk : ∀ u v, im G rs B u v H → im G rs' B' u v H') (ht : ∀ a xs, H a = some (.tup xs) → H' a = some (.tup xs)) : ∀ {as : SA} {st : Sto}, (∀ a ∈ fl as, H' a = H a) → StOk G B rs as st H → StOk G B' rs' as st H'
  | [], [], _, _ => trivial
  | p :: as, s :: st, k, ⟨h1, h2⟩ => ⟨ownC_mono hk _ _ _ (fun a m => k a (mem_fl (as := p :: as) List.mem_cons_self m)) h1, StOk.mono hk ht (fun a m => k a (List.mem_append_right _ m)) h2⟩
theorem StOk.len {G : Cxt} {B : Bn} {rs : List Addr} : ∀ {as : SA} {st : Sto}, StOk G B rs as st H → as.length = st.length
  | [], [], _ => rfl
  | _ :: _, _ :: _, h => by rw [List.length_cons, List.length_cons, StOk.len h.2]
theorem SDo.ex (s : SDo F os as st γ H σ δ) (e : Ex H H') : SDo F os as st γ H' σ δ :=
  s.go (Go.of_ex e) (List.nodup_append.mp s.nd).2.1 (StOk.mono (fun _ _ h => im_st (RB.of_ex e) _ _ h) (fun _ _ h => e _ _ h) (fun a m => by
    cases q : H a with
    | none => exact absurd q (s.ok a (.inr (.inr m)))
    | some o => exact e a o q) s.sto) fun a m => (Go.of_ex (as := as) e).alive (s.ok a (.inr (.inr m)))
theorem SDo.notban {p : Addr} (s : SDo F os as st γ H σ δ) (h : H p = none) : ¬ ban F os as p := fun b => s.ok p b h
theorem SDo.get (s : SDo F os as st γ H σ δ) {x : SV} (e : δ[i]? = some (some x)) : ∃ v, σ[i]? = some (some v) ∧ SVok F os as i x v H := s.at_ i x e
theorem getElem?_lt {α : Type} {l : List α} {x : α} (e : l[i]? = some x) : i < l.length := by
  rcases Nat.lt_or_ge i l.length with z | z
  · exact z
  · rw [List.getElem?_eq_none z] at e; cases e
theorem SDo.set (s : SDo F os as st γ H σ δ) {x : SV} (h : SVok F os as i x v H) : SDo F os as st γ H (σ.set i (some v)) (δ.set i (some x)) := by
  refine ⟨s.gh, s.rel, s.ok, s.nd, s.ix, s.new, s.nb, s.sto, by rw [List.length_set, List.length_set, s.len], fun j q e => ?_⟩
  by_cases hj : i = j
  · subst hj
    have hl : i < δ.length := by have := getElem?_lt e; rwa [List.length_set] at this
    rw [List.getElem?_set_self hl] at e
    cases e
    exact ⟨v, List.getElem?_set_self (by rw [s.len]; exact hl), h⟩
  · rw [List.getElem?_set_ne hj] at e
    obtain ⟨w, h1, h2⟩ := s.at_ j q e
    exact ⟨w, by rw [List.getElem?_set_ne hj]; exact h1, h2⟩
theorem SDo.unset (s : SDo F os as st γ H σ δ) {o : Option V} : SDo F os as st γ H (σ.set i o) (δ.set i none) := by
  refine ⟨s.gh, s.rel, s.ok, s.nd, s.ix, s.new, s.nb, s.sto, by rw [List.length_set, List.length_set, s.len], fun j q e => ?_⟩
  by_cases hj : i = j
  · subst hj
    have hl : i < δ.length := by have := getElem?_lt e; rwa [List.length_set] at this
    rw [List.getElem?_set_self hl] at e
    cases e
  · rw [List.getElem?_set_ne hj] at e
    obtain ⟨w, h1, h2⟩ := s.at_ j q e
    exact ⟨w, by rw [List.getElem?_set_ne hj]; exact h1, h2⟩
def Weak : Dl → Dl → Prop
  | [], [] => True
  | _ :: a, none :: b => Weak a b
  | x :: a, y :: b => x = y ∧ Weak a b
  | _, _ => False
theorem Weak.len : ∀ {a b : Dl}, Weak a b → a.length = b.length
  | [], [], _ => rfl
  | _ :: a, none :: b, h => by rw [List.length_cons, List.length_cons, Weak.len (a := a) (b := b) h]
  | _ :: a, some _ :: b, h => by rw [List.length_cons, List.length_cons, Weak.len (a := a) (b := b) h.2]
  | [], _ :: _, h => h.elim
  | _ :: _, [], h => by cases h
theorem Weak.get : ∀ {a b : Dl} {i : Nat} {p : SV}, Weak a b → b[i]? = some (some p) → a[i]? = some (some p)
  | [], [], _, _, _, e => by simp at e
  | x :: a, none :: b, 0, p, _, e => by simp at e
  | x :: a, none :: b, i + 1, p, h, e => by
    have := Weak.get (a := a) (b := b) (i := i) (p := p) h (by simpa using e)
    simpa using this
  | x :: a, some y :: b, 0, p, h, e => by
    have e1 : y = p := by simpa using e
    rw [show x = some y from h.1, e1]; rfl
  | x :: a, some y :: b, i + 1, p, h, e => by
    have := Weak.get (a := a) (b := b) (i := i) (p := p) h.2 (by simpa using e)
    simpa using this
  | [], _ :: _, _, _, h, _ => h.elim
  | _ :: _, [], _, _, h, _ => by cases h
theorem SDo.weak {δ' : Dl} (s : SDo F os as st γ H σ δ) (w : Weak δ δ') : SDo F os as st γ H σ δ' := ⟨s.gh, s.rel, s.ok, s.nd, s.ix, s.new, s.nb, s.sto, s.len.trans w.len, fun i p e => s.at_ i p (w.get e)⟩
def rd (F : Fr) (os : Os) (as : SA) : U → V → Hp → Prop
  | .lst us, v, H => ∃ a vs, v = .ref a ∧ ¬ ban F [] as a ∧ H a = some (.lst vs) ∧ imAll F.G (rts as) (ban F os as) us vs H
  | .dct ks us, v, H => ∃ a vs, v = .ref a ∧ ¬ ban F [] as a ∧ Rd H a (.dK (ks.zip vs)) ∧ ks.length = us.length ∧ imAll F.G (rts as) (ban F os as) us vs H
  | .dcT ks us, v, H => ∃ a vs, v = .ref a ∧ ¬ ban F [] as a ∧ Rd H a (.dT (ks.zip vs)) ∧ ks.length = us.length ∧ imAll F.G (rts as) (ban F os as) us vs H
  | .dcN ks us, v, H => ∃ a kvs, v = .ref a ∧ ¬ ban F [] as a ∧ Rd H a (DNo a kvs) ∧ nk8s ks = some (kvs.map (·.1)) ∧ imAll F.G (rts as) (ban F os as) ks (nkA kvs) H ∧ imAll F.G (rts as) (ban F os as) us (nkV kvs) H
  | .obj c ns us, v, H => ∃ a dx vs, v = .ref a ∧ ¬ ban F [] as a ∧ H a = some (.ins (F.G.at_ c) dx (ns.zip vs)) ∧ ns.length = us.length ∧ imAll F.G (rts as) (ban F os as) us vs H
  | u, v, H => im F.G (rts as) (ban F os as) u v H
theorem ban_nil {a : Addr} (n : ¬ ban F os as a) : ¬ ban F [] as a := fun b => n (b.elim .inl fun b => b.elim (fun z => nomatch z) fun z => .inr (.inr z))
theorem rd_of_im : ∀ {u : U}, im F.G (rts as) (ban F os as) u v H → rd F os as u v H
  | .non, h | .bl _, h | .int _, h | .str _, h | .tup _, h | .top _, h | .frl _, h | .loc _, h | .exc _, h | .exo _ _ _, h => h
  | .lst us, ⟨a, vs, e, n, h⟩ => ⟨a, vs, e, ban_nil n, h⟩
  | .dct ks us, ⟨a, vs, e, n, h⟩ => ⟨a, vs, e, ban_nil n, h⟩
  | .dcT ks us, ⟨a, vs, e, n, h⟩ => ⟨a, vs, e, ban_nil n, h⟩
  | .dcN ks us, ⟨a, vs, e, n, h⟩ => ⟨a, vs, e, ban_nil n, h⟩
  | .obj c ns us, ⟨a, dx, vs, e, n, h⟩ => ⟨a, dx, vs, e, ban_nil n, h⟩
abbrev noB : Bn := fun _ => False
theorem sub0 {B : Bn} {G : Cxt} {rs : List Addr} {u : U} (h : im G rs B u v H) : im G rs noB u v H := im_sub (B := B) (fun _ _ (z : False) => False.elim z) u v h
theorem imAll_none {G : Cxt} {rs : List Addr} {B : Bn} {us : List U} {vs : List V} (h : imAll G rs B us vs H) : imAll G rs noB us vs H := imAll_sub (B := B) (fun _ _ (z : False) => False.elim z) us vs h
theorem rd_im0 : ∀ {u : U}, rd F os as u v H → im F.G (rts as) noB u v H
  | .non, h | .bl _, h | .int _, h | .str _, h | .tup _, h | .top _, h | .frl _, h | .loc _, h | .exc _, h | .exo _ _ _, h => sub0 (B := ban F os as) h
  | .lst us, ⟨a, vs, e, _, h, q⟩ => ⟨a, vs, e, fun z => z, h, imAll_none q⟩
  | .dct ks us, ⟨a, vs, e, _, h, l, q⟩ => ⟨a, vs, e, fun z => z, h, l, imAll_none q⟩
  | .dcT ks us, ⟨a, vs, e, _, h, l, q⟩ => ⟨a, vs, e, fun z => z, h, l, imAll_none q⟩
  | .dcN ks us, ⟨a, vs, e, _, h, l, q1, q⟩ => ⟨a, vs, e, fun z => z, h, l, imAll_none q1, imAll_none q⟩
  | .obj c ns us, ⟨a, dx, vs, e, _, h, l, q⟩ => ⟨a, dx, vs, e, fun z => z, h, l, imAll_none q⟩
theorem rd_dp {d : PyData} (h : rd F os as u v H) (e : pd u = some d) : Dp F.G.K H v d := im_dp _ _ _ (rd_im0 h) e
theorem Go.off (g : Go as as' H H') {a : Addr} (n : ¬ ban F [] as a) (h : H a ≠ none) : ¬ ban F [] as' a := fun m => by
  rcases m with z | z | z
  · exact n (.inl z)
  · cases z
  · rcases g.new a z with z | z
    · exact n (.inr (.inr z))
    · exact h z
theorem nfl {a : Addr} (n : ¬ ban F [] as a) : a ∉ fl as := fun m => n (.inr (.inr m))
theorem rd_go (g : Go as as' H H') : ∀ {u : U}, rd F os as u v H → rd F os as' u v H'
  | .non, h | .bl _, h | .int _, h | .str _, h | .tup _, h | .top _, h | .frl _, h | .loc _, h | .exc _, h | .exo _ _ _, h => im_go (F := F) (os := os) g h
  | .lst us, ⟨a, vs, e, n, h, q⟩ => ⟨a, vs, e, g.off n (by rw [h]; exact fun z => nomatch z), g.rb.keep _ _ (nfl n) h, imAll_go g q⟩
  | .dct ks us, ⟨a, vs, e, n, h, l, q⟩ => ⟨a, vs, e, g.off n (rd_ne h), (kd_of g.rb).dK _ _ (nfl n) h, l, imAll_go g q⟩
  | .dcT ks us, ⟨a, vs, e, n, h, l, q⟩ => ⟨a, vs, e, g.off n (rd_ne h), (kd_of g.rb).dT _ _ (nfl n) h, l, imAll_go g q⟩
  | .dcN ks us, ⟨a, vs, e, n, h, l, q1, q⟩ => ⟨a, vs, e, g.off n (rd_ne h), (kd_of g.rb).dN _ _ _ (nfl n) h, l, imAll_go g q1, imAll_go g q⟩
  | .obj c ns us, ⟨a, dx, vs, e, n, h, l, q⟩ => ⟨a, dx, vs, e, g.off n (by rw [h]; exact fun z => nomatch z), g.rb.keep _ _ (nfl n) h, l, imAll_go g q⟩
end
section
variable (F : Fr)
abbrev PP (α : Type) := Os → SA → Hp → α → V → Hp → Prop
def EvP {α : Type} (P : PP α) (te : TE) (δ : Dl) (w : M α) : Prop := ∀ os as st γ σ H a st', SDo F os as st γ H σ δ → w st = some (.ok a, st') → ∀ QQ : VK, (∀ v H' as', Go as as' H H' → SDo F os as' st' γ H' σ δ → P os as' H a v H' → QQ v H') → te σ H QQ
def EvW : TE → Dl → M U → Prop := EvP F fun os as _ u v H => im F.G (rts as) (ban F os as) u v H
def EvR : TE → Dl → M U → Prop := EvP F fun os as _ u v H => rd F os as u v H
def EvN (s : Sh) (te : TE) (δ : Dl) (w : M U) : Prop := ∀ os as st γ σ H a st', SDo F os as st γ H σ δ → w st = some (.ok a, st') → ∀ QQ : VK, (∀ v H' as' A, Go as as' H H' → (∀ k, k ∉ os.map (·.1) → SDo F ((k, A) :: os) as' st' γ H' σ δ) → ownD F.G (rts as') (ban F ((0, A) :: os) as') s a v H' A → (∀ a ∈ A, H a = none) → QQ v H') → te σ H QQ
def EvT (tt : TT) (δ : Dl) (w : M Bool) : Prop := ∀ os as st γ σ H a st', SDo F os as st γ H σ δ → w st = some (.ok a, st') → ∀ QQ : Bool → Hp → Prop, (∀ H' as', Go as as' H H' → SDo F os as' st' γ H' σ δ → QQ a H') → tt σ H QQ
def EvO (to : TO) (δ : Dl) (w : M (Option Int)) : Prop := ∀ os as st γ σ H a st', SDo F os as st γ H σ δ → w st = some (.ok a, st') → ∀ QQ : Option Int → Hp → Prop, (∀ H' as', Go as as' H H' → SDo F os as' st' γ H' σ δ → QQ a H') → to σ H QQ
def EvA (P : Os → SA → List U → List V → Hp → Prop) (ta : TA) (δ : Dl) (w : M (List U)) : Prop := ∀ os as st γ σ H us st', SDo F os as st γ H σ δ → w st = some (.ok us, st') → ∀ QQ : List V → Hp → Prop, (∀ vs H' as', Go as as' H H' → SDo F os as' st' γ H' σ δ → P os as' us vs H' → QQ vs H') → ta σ H QQ
def EvAW : TA → Dl → M (List U) → Prop := EvA F fun os as us vs H => imAll F.G (rts as) (ban F os as) us vs H
end
inductive Out (S L : Type) where
  | nx (s : S) | rt (u : U) | bk (l : L) | ct (l : L)
structure Rt (F : Fr) (as : SA) (st : Sto) (H : Hp) (u : U) (v : V) : Prop where
  rel : Go F.as0 as F.H0 H
  ok : BOk (ban F [] as) H
  nd : (fl as).Nodup
  nb : ∀ a ∈ fl as, ¬ F.B a
  sto : StOk F.G (ban F [] as) (rts as) as st H
  im : im F.G (rts as) (ban F [] as) u v H
  r : F.R as st H u v
def Post (F : Fr) {S L : Type} (D : Ends) (γ : List (U × V)) (st : Sto) (δn : S → Dl) (δl : L → Dl) : Out S L → Prop
  | .nx s => ∀ os as σ H, SDo F os as st γ H σ (δn s) → D.nx σ H
  | .rt u => ∀ as v H, Rt F as st H u v → D.rt v H
  | .bk l => ∀ os as σ H, SDo F os as st γ H σ (δl l) → D.bk σ H
  | .ct l => ∀ os as σ H, SDo F os as st γ H σ (δl l) → D.ct σ H
def Blk (F : Fr) {S L : Type} (t : TS) (δ : Dl) (w : M (Out S L)) (δn : S → Dl) (δl : L → Dl) : Prop := ∀ D os as st γ σ H o st', SDo F os as st γ H σ δ → w st = some (.ok o, st') → Post F D γ st' δn δl o → t D σ H
end UX
namespace UX
open PySem PySem.Spec PyProof.Rows L2
open EL (Ex RB BOk Bn TK rAddU rMulU rSlU rEqU rNeU rLtU rLenQ rTupQ rListQ rReprD cut)
def addU : U → U → Option U
  | .int i, .int j => some (.int (i + j))
  | .tup a, .tup b => if a.length + b.length ≤ sizeLine then some (.tup (a ++ b)) else none
  | .lst a, .lst b => if a.length + b.length ≤ sizeLine then some (.lst (a ++ b)) else none
  | .str a, .str b => if a.length + b.length ≤ sizeLine then some (.str (a ++ b)) else none
  | _, _ => none
def subU : U → U → Option U
  | .int i, .int j => some (.int (i - j))
  | _, _ => none
instance (i j : Int) : Decidable (CMul i j) := by unfold CMul; infer_instance
instance (i j : Int) : Decidable (CDivN i j) := by unfold CDivN; infer_instance
instance (i j : Int) : Decidable (CPow i j) := by unfold CPow; infer_instance
def mulU : U → U → Option U
  | .int i, .int j => if CMul i j then some (.int (i * j)) else none
  | .tup a, .int k => if 0 ≤ k ∧ k ≤ 1000 ∧ a.length ≤ 1000 then some (.tup (List.replicate k.toNat a).flatten) else none
  | .lst a, .int k => if 0 ≤ k ∧ k ≤ 1000000 ∧ a.length * k.toNat ≤ sizeLine then some (.lst (List.replicate k.toNat a).flatten) else none
  | _, _ => none
def modU : U → U → Option U
  | .int i, .int j => if j ≠ 0 then some (.int (i.fmod j)) else none
  | _, _ => none
def fdivU : U → U → Option U
  | .int i, .int j => if CDivN i j then some (.int (i.fdiv j)) else none
  | _, _ => none
def powU : U → U → Option U
  | .int i, .int j => if CPow i j then some (.int (i ^ j.toNat)) else none
  | _, _ => none
def negU : U → Option U
  | .int i => some (.int (-i))
  | _ => none
def leU : U → U → Option U
  | .int i, .int j => some (.bl (decide (i ≤ j)))
  | _, _ => none
def gtU : U → U → Option U
  | .int i, .int j => some (.bl (decide (j < i)))
  | _, _ => none
def geU : U → U → Option U
  | .int i, .int j => some (.bl (decide (j ≤ i)))
  | _, _ => none
def notNone : PyData → Bool
  | .none => false
  | _ => true
theorem notNone_ne {d : PyData} (h : notNone d = true) : d ≠ .none := fun e => by rw [e] at h; cases h
def ltU : U → U → Option U
  | .int i, .int j => some (.bl (decide (i < j)))
  | a, b => match pd a, pd b with
    | some d, some e => if PySem.W.alike d e = true ∧ notNone d = true ∧ d.depth ≤ 64 then some (.bl (PySem.W.dataLt d e)) else none
    | _, _ => none
def eqD (a b : U) : Option U := match pd a, pd b with
  | some d, some e => if SeqAt.shaped d = true ∧ SeqAt.shaped e = true then some (.bl (PyData.eqv d e)) else none
  | _, _ => none
def neD (a b : U) : Option U := match pd a, pd b with
  | some d, some e => if SeqAt.shaped d = true ∧ SeqAt.shaped e = true then some (.bl (!PyData.eqv d e)) else none
  | _, _ => none
def eqU : U → U → Option U
  | .str x, .str y => some (.bl (decide (x = y)))
  | a, b => eqD a b
def neU : U → U → Option U
  | .str x, .str y => some (.bl (!decide (x = y)))
  | a, b => neD a b
def isNU : U → Bool
  | .non => true
  | _ => false
def ixU : U → U → Option U
  | .lst us, .int i => atI us i
  | .tup us, .int i => atI us i
  | .frl us, .int i => atI us i
  | _, _ => none
def slU : U → Option Int → Option Int → Option U
  | .lst us, lo, hi => some (.lst (cut us lo hi))
  | .tup us, lo, hi => some (.tup (cut us lo hi))
  | .frl us, lo, hi => some (.lst (cut us lo hi))
  | _, _, _ => none
def lenU : U → Option U
  | .lst us => some (.int us.length)
  | .tup us => some (.int us.length)
  | .frl us => some (.int us.length)
  | _ => none
def tupleU : U → Option U
  | .lst us => some (.tup us)
  | .tup us => some (.tup us)
  | _ => none
def listU : U → Option U
  | .lst us => some (.lst us)
  | .tup us => some (.lst us)
  | _ => none
def boolsU : List U → Option (List Bool)
  | [] => some []
  | .bl b :: r => (boolsU r).map (b :: ·)
  | _ => none
def allU : U → Option U
  | .lst us => (boolsU us).map fun bs => .bl (bs.all id)
  | _ => none
def tyU : U → Option String
  | .non => some "NoneType"
  | .bl _ => some "bool"
  | .int _ => some "int"
  | .str _ => some "str"
  | .tup _ => some "tuple"
  | .lst _ => some "list"
  | .dct _ _ => some "dict"
  | _ => none
def subT (a b : String) : Bool := a == b || (a == "bool" && b == "int")
def isiU (u : U) (T : String) : Option U := match tyU u with
  | some t => if ["int", "bool", "str", "tuple", "list", "dict"].contains T then some (.bl (subT t T)) else none
  | none => none
theorem kit_all : (["NoneType", "bool", "int", "str", "tuple", "list", "dict"].all fun a => ["int", "bool", "str", "tuple", "list", "dict"].all fun b => kitB a b == some (subT a b)) = true := by decide +kernel
theorem kit_is {u : U} {t T : String} (h : tyU u = some t) (hT : ["int", "bool", "str", "tuple", "list", "dict"].contains T = true) : kitB t T = some (subT t T) := by
  have h1 : t ∈ ["NoneType", "bool", "int", "str", "tuple", "list", "dict"] := by
    cases u <;> simp [tyU] at h <;> subst h <;> decide
  have h2 := List.all_eq_true.mp (List.all_eq_true.mp kit_all t h1) T (by simpa using hT)
  simpa using h2
def notU : U → Option U
  | .bl b => some (.bl (!b))
  | _ => none
def boolU : U → Option Bool
  | .bl b => some b
  | _ => none
def intU : U → Option Int
  | .int i => some i
  | _ => none
section
variable {F : Fr}
def OpOk (F : Fr) (r : R2) (f : U → U → Option U) : Prop := ∀ os as H a b c x y, BOk (ban F os as) H → rd F os as a x H → rd F os as b y H → f a b = some c → ∀ QQ : VK, (∀ v H', Ex H H' → im F.G (rts as) (ban F os as) c v H' → QQ v H') → r x y H QQ
def Op1Ok (F : Fr) (r : List V → Hp → VK → Prop) (f : U → Option U) : Prop := ∀ os as H a c x, BOk (ban F os as) H → rd F os as a x H → f a = some c → ∀ QQ : VK, (∀ v H', Ex H H' → im F.G (rts as) (ban F os as) c v H' → QQ v H') → r [x] H QQ
theorem op_I0 {g : Int → Int → V} {f : U → U → Option U} (hf : ∀ a b c, f a b = some c → ∃ i j, a = .int i ∧ b = .int j ∧ ∀ os as H, im F.G (rts as) (ban F os as) c (g i j) H) : OpOk F (rI0 g) f := fun os as H a b c x y ok ha hb e QQ k => by
  obtain ⟨i, j, rfl, rfl, h⟩ := hf a b c e
  exact ⟨i, j, ha, hb, k _ H (Ex.refl H) (h os as H)⟩
theorem ok_sub : OpOk F (rI0 fun i j => .int (i - j)) subU := op_I0 fun a b c e => by
  cases a <;> cases b <;> simp [subU] at e
  subst e; exact ⟨_, _, rfl, rfl, fun _ _ _ => rfl⟩
theorem ok_le : OpOk F (rI0 fun i j => .bl (decide (i ≤ j))) leU := op_I0 fun a b c e => by
  cases a <;> cases b <;> simp [leU] at e
  subst e; exact ⟨_, _, rfl, rfl, fun _ _ _ => rfl⟩
theorem ok_gt : OpOk F (rI0 fun i j => .bl (decide (j < i))) gtU := op_I0 fun a b c e => by
  cases a <;> cases b <;> simp [gtU] at e
  subst e; exact ⟨_, _, rfl, rfl, fun _ _ _ => rfl⟩
theorem ok_ge : OpOk F (rI0 fun i j => .bl (decide (j ≤ i))) geU := op_I0 fun a b c e => by
  cases a <;> cases b <;> simp [geU] at e
  subst e; exact ⟨_, _, rfl, rfl, fun _ _ _ => rfl⟩
theorem ok_mod : OpOk F (rI (fun _ j => j ≠ 0) fun i j => .int (i.fmod j)) modU := fun os as H a b c x y ok ha hb e QQ k => by
  cases a <;> cases b <;> simp [modU] at e
  rename_i i j
  obtain ⟨h0, rfl⟩ := e
  exact ⟨i, j, ha, hb, h0, k _ H (Ex.refl H) rfl⟩
theorem ok_fdiv : OpOk F (rI CDivN fun i j => .int (i.fdiv j)) fdivU := fun os as H a b c x y ok ha hb e QQ k => by
  cases a <;> cases b <;> simp [fdivU] at e
  rename_i i j
  obtain ⟨h0, rfl⟩ := e
  exact ⟨i, j, ha, hb, h0, k _ H (Ex.refl H) rfl⟩
theorem ok_pow : OpOk F (rI CPow fun i j => .int (i ^ j.toNat)) powU := fun os as H a b c x y ok ha hb e QQ k => by
  cases a <;> cases b <;> simp [powU] at e
  rename_i i j
  obtain ⟨h0, rfl⟩ := e
  exact ⟨i, j, ha, hb, h0, k _ H (Ex.refl H) rfl⟩
theorem ok_add : OpOk F (rAddU F.G.K) addU := fun os as H a b c x y ok ha hb e QQ k => by
  cases a <;> cases b <;> simp [addU] at e
  · subst e; exact .inl ⟨_, _, ha, hb, k _ H (Ex.refl H) rfl⟩
  · obtain ⟨hl, rfl⟩ := e; exact .inr (.inr (.inr ⟨_, _, ha, hb, hl, k _ H (Ex.refl H) rfl⟩))
  · obtain ⟨hl, rfl⟩ := e
    rename_i us vs
    obtain ⟨a, xs, rfl, ta, qa⟩ := ha
    obtain ⟨b, ys, rfl, tb, qb⟩ := hb
    refine .inr (.inl ⟨a, b, xs, ys, rfl, rfl, EL.sqT_of ta, EL.sqT_of tb, by rw [imAll_len qa, imAll_len qb]; exact hl, fun z => ?_, fun _ z => ?_, fun _ _ p hp => ?_⟩)
    · subst z
      have : us = [] := List.eq_nil_of_length_eq_zero (imAll_len qa).symm
      subst this
      exact k _ H (Ex.refl H) ⟨b, ys, rfl, tb, qb⟩
    · subst z
      have : vs = [] := List.eq_nil_of_length_eq_zero (imAll_len qb).symm
      subst this
      exact k _ H (Ex.refl H) (by rw [List.append_nil]; exact ⟨a, xs, rfl, ta, qa⟩)
    · exact k _ _ (Ex.new hp) ⟨p, xs ++ ys, rfl, upd_same, imAll_st (RB.of_ex (Ex.new hp)) _ _ (imAll_append qa qb)⟩
  · obtain ⟨hl, rfl⟩ := e
    obtain ⟨a, xs, rfl, na, ta, qa⟩ := ha
    obtain ⟨b, ys, rfl, nb, tb, qb⟩ := hb
    exact .inr (.inr (.inl ⟨a, b, xs, ys, rfl, rfl, ta, tb, by rw [imAll_len qa, imAll_len qb]; exact hl, fun p hp => k _ _ (Ex.new hp) ⟨p, xs ++ ys, rfl, fun z => ok p z hp, upd_same, imAll_st (RB.of_ex (Ex.new hp)) _ _ (imAll_append qa qb)⟩⟩))
theorem ok_mul : OpOk F (rMulU F.G.K) mulU := fun os as H a b c x y ok ha hb e QQ k => by
  cases a <;> cases b <;> simp [mulU] at e
  · obtain ⟨hc, rfl⟩ := e; exact .inl ⟨_, _, ha, hb, hc, k _ H (Ex.refl H) rfl⟩
  · obtain ⟨⟨h0, h1, hl⟩, rfl⟩ := e
    rename_i us i
    obtain ⟨a, xs, rfl, ta, qa⟩ := ha
    refine .inr (.inl ⟨a, i, xs, rfl, hb, EL.sqT_of ta, h0, h1, by rw [imAll_len qa]; exact hl, fun z => k _ H (Ex.refl H) ⟨a, xs, rfl, ta, ?_⟩, fun _ _ p hp => k _ _ (Ex.new hp) ⟨p, _, rfl, upd_same, imAll_st (RB.of_ex (Ex.new hp)) _ _ (imAll_rep qa _)⟩⟩)
    rcases z with z | z
    · subst z
      have : us = [] := List.eq_nil_of_length_eq_zero (imAll_len qa).symm
      subst this
      rw [show (List.replicate i.toNat ([] : List U)).flatten = [] by simp]
      exact qa
    · subst z
      rw [show (List.replicate (1 : Int).toNat us).flatten = us by simp]
      exact qa
  · obtain ⟨⟨h0, h1, hl⟩, rfl⟩ := e
    rename_i us i
    obtain ⟨a, xs, rfl, na, ta, qa⟩ := ha
    exact .inr (.inr ⟨a, i, xs, rfl, hb, ta, by omega, by omega, by rw [imAll_len qa]; exact hl, fun p hp => k _ _ (Ex.new hp) ⟨p, _, rfl, fun z => ok p z hp, upd_same, imAll_st (RB.of_ex (Ex.new hp)) _ _ (imAll_rep qa _)⟩⟩)
theorem ok_eqD : OpOk F (rEqU F.G.K) eqD := fun os as H a b c x y ok ha hb e QQ k => by
  unfold eqD at e
  cases e1 : pd a with
  | none => rw [e1] at e; cases e
  | some d =>
    cases e2 : pd b with
    | none => rw [e1, e2] at e; cases e
    | some d' =>
      rw [e1, e2] at e
      simp at e
      obtain ⟨⟨h1, h2⟩, rfl⟩ := e
      exact .inl ⟨d, d', rd_dp ha e1, rd_dp hb e2, h1, h2, k _ H (Ex.refl H) rfl⟩
theorem ok_neD : OpOk F (rNeU F.G.K) neD := fun os as H a b c x y ok ha hb e QQ k => by
  unfold neD at e
  cases e1 : pd a with
  | none => rw [e1] at e; cases e
  | some d =>
    cases e2 : pd b with
    | none => rw [e1, e2] at e; cases e
    | some d' =>
      rw [e1, e2] at e
      simp at e
      obtain ⟨⟨h1, h2⟩, rfl⟩ := e
      exact .inl ⟨d, d', rd_dp ha e1, rd_dp hb e2, h1, h2, k _ H (Ex.refl H) rfl⟩
theorem ok_eq : OpOk F (rEqU F.G.K) eqU := fun os as H a b c x y ok ha hb e QQ k => by
  by_cases h : ∃ s t, a = .str s ∧ b = .str t
  · obtain ⟨s, t, rfl, rfl⟩ := h
    cases e
    cases (show x = V.str s from ha); cases (show y = V.str t from hb)
    exact .inr ⟨rfl, k _ H (Ex.refl H) (by show V.bl _ = V.bl _; congr 1; by_cases z : s = t <;> simp [z])⟩
  · exact ok_eqD os as H a b c x y ok ha hb (by
      unfold eqU at e
      split at e
      · exact absurd ⟨_, _, rfl, rfl⟩ h
      · exact e) QQ k
theorem ok_ne : OpOk F (rNeU F.G.K) neU := fun os as H a b c x y ok ha hb e QQ k => by
  by_cases h : ∃ s t, a = .str s ∧ b = .str t
  · obtain ⟨s, t, rfl, rfl⟩ := h
    cases e
    cases (show x = V.str s from ha); cases (show y = V.str t from hb)
    exact .inr ⟨rfl, k _ H (Ex.refl H) (by show V.bl _ = V.bl _; congr 2; by_cases z : s = t <;> simp [z])⟩
  · exact ok_neD os as H a b c x y ok ha hb (by
      unfold neU at e
      split at e
      · exact absurd ⟨_, _, rfl, rfl⟩ h
      · exact e) QQ k
theorem ok_lt : OpOk F (rLtU F.G.K) ltU := fun os as H a b c x y ok ha hb e QQ k => by
  have gen : ∀ {a b : U} {x y : V}, rd F os as a x H → rd F os as b y H → (match pd a, pd b with
    | some d, some e => if PySem.W.alike d e = true ∧ notNone d = true ∧ d.depth ≤ 64 then some (U.bl (PySem.W.dataLt d e)) else none
    | _, _ => none) = some c → rLtU F.G.K x y H QQ := fun {a b x y} ha hb e => by
    cases e1 : pd a with
    | none => rw [e1] at e; cases e
    | some d =>
      cases e2 : pd b with
      | none => rw [e1, e2] at e; cases e
      | some d' =>
        rw [e1, e2] at e
        simp at e
        obtain ⟨⟨h1, h2, h3⟩, rfl⟩ := e
        exact .inr ⟨d, d', rd_dp ha e1, rd_dp hb e2, h1, notNone_ne h2, h3, k _ H (Ex.refl H) rfl⟩
  cases a with
  | int i =>
    cases b with
    | int j => simp [ltU] at e; subst e; exact .inl ⟨i, j, ha, hb, k _ H (Ex.refl H) rfl⟩
    | _ => exact gen ha hb e
  | _ => exact gen ha hb e
theorem atI_im {G : Cxt} {rs : List Addr} {B : Bn} {H : Hp} {us : List U} {vs : List V} {i : Int} {u : U} (h : imAll G rs B us vs H) (e : atI us i = some u) : ∃ v, atI vs i = some v ∧ im G rs B u v H := by
  unfold atI at e ⊢
  rw [imAll_len h]
  cases q : ixN us.length i with
  | none => rw [q] at e; cases e
  | some j =>
    rw [q] at e
    exact imAll_get h (show us[j]? = some u from e)
theorem ok_ix : OpOk F (rIx F.G.K) ixU := fun os as H a b c x y ok ha hb e QQ k => by
  cases a <;> cases b <;> simp [ixU] at e
  · obtain ⟨a, xs, rfl, ta, qa⟩ := ha
    obtain ⟨v, e1, e2⟩ := atI_im qa e
    exact .inr (.inl ⟨a, xs, _, v, rfl, hb, EL.sqT_of ta, e1, k v H (Ex.refl H) e2⟩)
  · obtain ⟨a, xs, rfl, _, ta, qa⟩ := ha
    obtain ⟨v, e1, e2⟩ := atI_im qa e
    exact .inl ⟨a, xs, _, v, rfl, hb, .inl (.inl ta), e1, k v H (Ex.refl H) e2⟩
  · obtain ⟨a, xs, rfl, ta, qa⟩ := ha
    obtain ⟨v, e1, e2⟩ := atI_im qa e
    exact .inl ⟨a, xs, _, v, rfl, hb, ta.sq, e1, k v H (Ex.refl H) e2⟩
theorem ok_len : Op1Ok F (rLenQ F.G.K) lenU := fun os as H a c x ok ha e QQ k => by
  cases a <;> simp [lenU] at e <;> subst e
  · obtain ⟨a, xs, rfl, ta, qa⟩ := ha
    exact ⟨a, xs, rfl, .inr (EL.sqT_of ta), k _ H (Ex.refl H) (by rw [imAll_len qa]; rfl)⟩
  · obtain ⟨a, xs, rfl, _, ta, qa⟩ := ha
    exact ⟨a, xs, rfl, .inl (.inl (.inl ta)), k _ H (Ex.refl H) (by rw [imAll_len qa]; rfl)⟩
  · obtain ⟨a, xs, rfl, ta, qa⟩ := ha
    exact ⟨a, xs, rfl, .inl ta.sq, k _ H (Ex.refl H) (by rw [imAll_len qa]; rfl)⟩
theorem ok_tuple : Op1Ok F (rTupQ F.G.K) tupleU := fun os as H a c x ok ha e QQ k => by
  cases a <;> simp [tupleU] at e <;> subst e
  · obtain ⟨a, xs, rfl, ta, qa⟩ := ha
    exact ⟨a, xs, rfl, .inr ⟨EL.sqT_of ta, k _ H (Ex.refl H) ⟨a, xs, rfl, ta, qa⟩⟩⟩
  · obtain ⟨a, xs, rfl, _, ta, qa⟩ := ha
    exact ⟨a, xs, rfl, .inl ⟨.inl (.inl ta), fun l hl => k _ _ (Ex.new hl) ⟨l, xs, rfl, upd_same, imAll_st (RB.of_ex (Ex.new hl)) _ _ qa⟩⟩⟩
theorem imAll_bools {G : Cxt} {rs : List Addr} {B : Bn} {H : Hp} : ∀ {us : List U} {bs : List Bool} {vs : List V}, boolsU us = some bs → imAll G rs B us vs H → vs = bs.map V.bl
  | [], bs, vs, e, h => by cases e; exact h
  | .bl b :: r, bs, vs, e, ⟨v, w, ev, h1, h2⟩ => by
    cases e1 : boolsU r with
    | none => rw [boolsU, e1] at e; cases e
    | some cs =>
      rw [boolsU, e1] at e; cases e
      rw [ev, show v = _ from h1, imAll_bools e1 h2]; rfl
theorem ok_all : Op1Ok F (rAll F.G.K) allU := fun os as H a c x ok ha e QQ k => by
  cases a <;> simp [allU] at e
  obtain ⟨bs, e1, rfl⟩ := e
  obtain ⟨a, xs, rfl, _, ta, qa⟩ := ha
  rw [imAll_bools e1 qa] at ta
  exact ⟨a, bs, rfl, .inl (.inl ta), k _ H (Ex.refl H) rfl⟩
theorem rd_ty {os : Os} {as : SA} {H : Hp} : ∀ {u : U} {v : V} {t : String}, tyU u = some t → rd F os as u v H → TyX F.G.K H v (.type t)
  | .non, _, _, e, h => by cases e; cases (show _ = _ from h); exact .base .non
  | .bl _, _, _, e, h => by cases e; cases (show _ = _ from h); exact .base (.bl _)
  | .int _, _, _, e, h => by cases e; cases (show _ = _ from h); exact .base (.int _)
  | .str _, _, _, e, h => by cases e; cases (show _ = _ from h); exact .base (.str _)
  | .tup us, _, _, e, ⟨a, vs, ev, s, _⟩ => by
    cases e; subst ev
    exact .base (.tup s)
  | .lst us, _, _, e, ⟨a, vs, ev, _, s, _⟩ => by
    cases e; subst ev
    exact .base (.lst s)
  | .dct ks us, _, _, e, ⟨a, vs, ev, _, s, _, _⟩ => by
    cases e; subst ev
    rcases s with s | ⟨o, s⟩
    · exact .base (.dK s)
    · exact .fDict s
end
def op1 (f : U → Option U) (wa : M U) : M U := .bind wa fun a => .o (f a)
def op2 (f : U → U → Option U) (wa wb : M U) : M U := .bind wa fun a => .bind wb fun b => .o (f a b)
def testW (wa : M U) : M Bool := .bind wa fun a => .o (boolU a)
def notT (w : M Bool) : M Bool := .bind w fun b => .ret (!b)
def andT (w w' : M Bool) : M Bool := .bind w fun b => if b = true then w' else .ret false
def orT (w w' : M Bool) : M Bool := .bind w fun b => if b = true then .ret true else w'
def andW (w w' : M U) : M U := .bind (testW w) fun b => if b = true then w' else .ret (.bl false)
def orW (w w' : M U) : M U := .bind (testW w) fun b => if b = true then .ret (.bl true) else w'
def iteW {α : Type} (c : M Bool) (w w' : M α) : M α := .bind c fun b => if b = true then w else w'
def chainW (f g : U → U → Option U) (wa wb wc : M U) : M U := .bind wa fun a => .bind wb fun b => .bind (testW (.o (f a b))) fun k => if k = true then .bind wc fun c => .o (g b c) else .ret (.bl false)
def consA (wa : M U) (wr : M (List U)) : M (List U) := .bind wa fun a => .bind wr fun r => .ret (a :: r)
def nilA : M (List U) := .ret []
def tupW (wa : M (List U)) : M U := .bind wa fun us => .o (if us.length ≤ sizeLine then some (.tup us) else none)
def lstW (wa : M (List U)) : M U := .bind wa fun us => .o (if us.length ≤ sizeLine then some (.lst us) else none)
def noP : M (Option Int) := .ret none
def someP (w : M U) : M (Option Int) := .bind w fun u => .o ((intU u).map some)
def slW (wa : M U) (wl wh : M (Option Int)) : M U := .bind wa fun a => .bind wl fun l => .bind wh fun h => .o (slU a l h)
section
variable {F : Fr} {δ : Dl} {te ta tb tc : TE} {tt tu : TT} {wa wb wc : M U} {w w' : M U} {wt wu : M Bool}
theorem EvW.r (h : EvW F te δ w) : EvR F te δ w := fun os as st γ σ H a st' S q QQ k => h os as st γ σ H a st' S q QQ fun v H' as' g S' p => k v H' as' g S' (rd_of_im p)
theorem ev_var {i : Nat} {u : U} (h : δ[i]? = some (some (.im u))) : EvW F (tVar i) δ (.ret u) := fun os as st γ σ H a st' S q QQ k => by
  cases q
  obtain ⟨v, e, p⟩ := S.get h
  exact ⟨v, e, k v H as (Go.refl _ _) S p⟩
theorem rd_of_own {os : Os} {as : SA} {i : Nat} {s : Sh} {u : U} {v : V} {H : Hp} {A : List Addr} (nd : (flo os ++ fl as).Nodup) (nb : ∀ a, a ∈ flo os ∨ a ∈ fl as → ¬ F.B a) (m : (i, A) ∈ os) (hs : s = .lst .leaf ∨ s = .dct .leaf ∨ s = .obj (fun _ => .leaf) ∨ s = .leaf) (h : ownD F.G (rts as) (ban F os as) s u v H A) : rd F os as u v H := by
  have off : ∀ a ∈ A, ¬ ban F [] as a := fun a z q => q.elim (nb a (.inl (mem_flo m z))) fun q => q.elim (fun w => nomatch w) fun q => (List.nodup_append.mp nd).2.2 a (mem_flo m z) a q rfl
  rcases hs with rfl | rfl | rfl | rfl
  · cases u <;> first | exact h.elim | skip
    obtain ⟨a, vs, e1, e2, h1, q⟩ := own_lst.mp h
    exact ⟨a, vs, e1, off a (by rw [e2]; exact List.mem_cons_self), h1, q⟩
  · cases u <;> first | exact h.elim | skip
    · obtain ⟨a, vs, e1, e2, h1, l, q⟩ := own_dct.mp h
      exact ⟨a, vs, e1, off a (by rw [e2]; exact List.mem_cons_self), .inl h1, l, q⟩
    · obtain ⟨a, vs, e1, e2, h1, l, q⟩ := own_dcT.mp h
      exact ⟨a, vs, e1, off a (by rw [e2]; exact List.mem_cons_self), .inl h1, l, q⟩
    · obtain ⟨a, vs, e1, e2, h1, l, q⟩ := own_dcN.mp h
      exact ⟨a, vs, e1, off a (by rw [e2]; exact List.mem_cons_self), .inl h1, l, q⟩
  · cases u <;> first | exact h.elim | skip
    rename_i c ns us
    obtain ⟨a, dx, vs, A', e1, e2, h1, l, q⟩ := h
    exact ⟨a, dx, vs, e1, off a (by rw [e2]; exact List.mem_cons_self), h1, l, ((ownZ_leaf (f := fun n => (fun _ => Sh.leaf) (ns.getD n "")) fun _ => rfl).mp q).2⟩
  · exact rd_of_im h.2
theorem ev_own {i : Nat} {s : Sh} {u : U} (h : δ[i]? = some (some (.own s u))) (hs : s = .lst .leaf ∨ s = .dct .leaf ∨ s = .obj (fun _ => .leaf) ∨ s = .leaf) : EvR F (tVar i) δ (.ret u) := fun os as st γ σ H a st' S q QQ k => by
  cases q
  obtain ⟨v, e, A, m, p⟩ := S.get h
  exact ⟨v, e, k v H as (Go.refl _ _) S (rd_of_own S.nd S.nb m hs p)⟩
theorem ev_ownL {i : Nat} {u : U} (h : δ[i]? = some (some (.own (.lst .leaf) u))) : EvR F (tVar i) δ (.ret u) := ev_own h (.inl rfl)
theorem ev_c {v : V} {u : U} (h : ∀ os as H, im F.G (rts as) (ban F os as) u v H) : EvW F (tC v) δ (.ret u) := fun os as st γ σ H a st' S q QQ k => by
  cases q; exact k _ H as (Go.refl _ _) S (h os as H)
theorem ev_int {i : Int} : EvW F (tC (.int i)) δ (.ret (.int i)) := ev_c fun _ _ _ => rfl
theorem ev_bl {b : Bool} : EvW F (tC (.bl b)) δ (.ret (.bl b)) := ev_c fun _ _ _ => rfl
theorem ev_str {x : Str} : EvW F (tC (.str x)) δ (.ret (.str x)) := ev_c fun _ _ _ => rfl
theorem ev_non : EvW F (tC .non) δ (.ret .non) := ev_c fun _ _ _ => rfl
theorem ev_op {r : R2} {f : U → U → Option U} (h : OpOk F r f) (ha : EvR F ta δ wa) (hb : EvR F tb δ wb) : EvW F (tOp r ta tb) δ (op2 f wa wb) := fun os as st γ σ H c st' S q QQ k => by
  obtain ⟨a, st1, qa, q⟩ := M.bind_inv q
  obtain ⟨b, st2, qb, q⟩ := M.bind_inv q
  obtain ⟨e, rfl⟩ := M.o_inv q
  exact ha os as st γ σ H a st1 S qa _ fun x H1 as1 g1 S1 px => hb os as1 st1 γ σ H1 b _ S1 qb _ fun y H2 as2 g2 S2 py =>
    h os as2 H2 a b c x y S2.ok (rd_go g2 px) py e QQ fun v H3 e3 p3 => k v H3 as2 ((g1.trans g2).trans (Go.of_ex e3)) (S2.ex e3) p3
theorem ev_cb1 {r : List V → Hp → VK → Prop} {f : U → Option U} (h : Op1Ok F r f) (ha : EvR F ta δ wa) : EvW F (tCB r (tCons ta tNil)) δ (op1 f wa) := fun os as st γ σ H c st' S q QQ k => by
  obtain ⟨a, st1, qa, q⟩ := M.bind_inv q
  obtain ⟨e, rfl⟩ := M.o_inv q
  exact ha os as st γ σ H a _ S qa _ fun x H1 as1 g1 S1 px => h os as1 H1 a c x S1.ok px e QQ fun v H3 e3 p3 => k v H3 as1 (g1.trans (Go.of_ex e3)) (S1.ex e3) p3
theorem ev_isi {T : String} (ha : EvR F ta δ wa) : EvW F (tCB (rIsi F.G.K) (tCons ta (tCons (tC (.ty T)) tNil))) δ (op1 (isiU · T) wa) := fun os as st γ σ H c st' S q QQ k => by
  obtain ⟨a, st1, qa, q⟩ := M.bind_inv q
  obtain ⟨ec, rfl⟩ := M.o_inv q
  refine ha os as st γ σ H a _ S qa _ fun x H1 as1 g1 S1 px => ?_
  unfold isiU at ec
  dsimp only at ec
  cases e : tyU a with
  | none => rw [e] at ec; cases ec
  | some t =>
    rw [e] at ec
    by_cases hT : ["int", "bool", "str", "tuple", "list", "dict"].contains T = true
    · simp only [hT, if_true] at ec
      cases ec
      exact ⟨x, .ty T, _, _, _, rfl, .ty T, rd_ty e px, kit_ty (kit_is e hT), k _ H1 as1 g1 S1 rfl⟩
    · simp only [hT] at ec; cases ec
theorem isN_rd {os : Os} {as : SA} {H : Hp} {a : U} {x : V} (px : rd F os as a x H) : decide (x = .non) = isNU a := by
  cases a with
  | non => rw [show x = .non from px]; rfl
  | bl _ | int _ | str _ | top _ => rw [show x = _ from px]; simp [isNU]
  | tup _ | frl _ => obtain ⟨a, vs, e, _⟩ := px; rw [e]; simp [isNU]
  | lst _ | dct _ _ | dcT _ _ | dcN _ _ => obtain ⟨a, vs, e, _⟩ := px; rw [e]; simp [isNU]
  | obj _ _ _ => obtain ⟨a, dx, vs, e, _⟩ := px; rw [e]; simp [isNU]
  | loc _ => obtain ⟨a, _, e⟩ := px; rw [e]; simp [isNU]
  | exc _ => obtain ⟨a, e, _⟩ := px; rw [e]; simp [isNU]
  | exo _ _ _ => obtain ⟨a, _, _, e, _⟩ := px; rw [e]; simp [isNU]
theorem ev_isN (ha : EvR F ta δ wa) : EvW F (tOp (fun x y H Q => y = .non ∧ Q (.bl (decide (x = .non))) H) ta (tC .non)) δ (.bind wa fun a => .ret (.bl (isNU a))) := fun os as st γ σ H c st' S q QQ k => by
  obtain ⟨a, st1, qa, q⟩ := M.bind_inv q
  cases q
  exact ha os as st γ σ H a _ S qa _ fun x H1 as1 g1 S1 px => ⟨rfl, k _ H1 as1 g1 S1 (by show V.bl _ = V.bl _; rw [isN_rd px])⟩
theorem ev_notN (ha : EvR F ta δ wa) : EvW F (tOp (fun x y H Q => y = .non ∧ Q (.bl (!decide (x = .non))) H) ta (tC .non)) δ (.bind wa fun a => .ret (.bl (!isNU a))) := fun os as st γ σ H c st' S q QQ k => by
  obtain ⟨a, st1, qa, q⟩ := M.bind_inv q
  cases q
  exact ha os as st γ σ H a _ S qa _ fun x H1 as1 g1 S1 px => ⟨rfl, k _ H1 as1 g1 S1 (by show V.bl _ = V.bl _; rw [isN_rd px])⟩
theorem rd_bl {os : Os} {as : SA} {H : Hp} {u : U} {v : V} {b : Bool} (e : boolU u = some b) (h : rd F os as u v H) : v = .bl b := by
  cases u <;> simp [boolU] at e
  subst e; exact h
theorem et_test (ha : EvR F te δ wa) : EvT F (tTest te) δ (testW wa) := fun os as st γ σ H c st' S q QQ k => by
  obtain ⟨a, st1, qa, q⟩ := M.bind_inv q
  obtain ⟨e, rfl⟩ := M.o_inv q
  exact ha os as st γ σ H a _ S qa _ fun x H1 as1 g1 S1 px => ⟨c, rd_bl e px, k H1 as1 g1 S1⟩
theorem et_B (ha : EvR F te δ wa) : EvT F (tB te) δ (testW wa) := fun os as st γ σ H c st' S q QQ k => by
  obtain ⟨a, st1, qa, q⟩ := M.bind_inv q
  obtain ⟨e, rfl⟩ := M.o_inv q
  exact ha os as st γ σ H a _ S qa _ fun x H1 as1 g1 S1 px => ⟨c, rd_bl e px, k H1 as1 g1 S1⟩
theorem et_not (h : EvT F tt δ wt) : EvT F (tNot tt) δ (notT wt) := fun os as st γ σ H c st' S q QQ k => by
  obtain ⟨a, st1, qa, q⟩ := M.bind_inv q
  cases q
  exact h os as st γ σ H a _ S qa _ fun H1 as1 g1 S1 => k H1 as1 g1 S1
theorem et_and (h : EvT F tt δ wt) (h' : EvT F tu δ wu) : EvT F (tAnd tt tu) δ (andT wt wu) := fun os as st γ σ H c st' S q QQ k => by
  obtain ⟨a, st1, qa, q⟩ := M.bind_inv q
  refine h os as st γ σ H a _ S qa _ fun H1 as1 g1 S1 => ?_
  cases a with
  | true => exact h' os as1 st1 γ σ H1 c st' S1 q QQ fun H2 as2 g2 S2 => k H2 as2 (g1.trans g2) S2
  | false => cases q; exact k H1 as1 g1 S1
theorem et_or (h : EvT F tt δ wt) (h' : EvT F tu δ wu) : EvT F (tOr tt tu) δ (orT wt wu) := fun os as st γ σ H c st' S q QQ k => by
  obtain ⟨a, st1, qa, q⟩ := M.bind_inv q
  refine h os as st γ σ H a _ S qa _ fun H1 as1 g1 S1 => ?_
  cases a with
  | false => exact h' os as1 st1 γ σ H1 c st' S1 q QQ fun H2 as2 g2 S2 => k H2 as2 (g1.trans g2) S2
  | true => cases q; exact k H1 as1 g1 S1
theorem et_yes : EvT F tYes δ (.ret true) := fun os as st γ σ H c st' S q QQ k => by
  cases q; exact k H as (Go.refl _ _) S
theorem ev_and (h : EvR F ta δ wa) (h' : EvW F tb δ wb) : EvW F (tAndV ta tb) δ (andW wa wb) := fun os as st γ σ H c st' S q QQ k => by
  obtain ⟨b, st1, qa, q⟩ := M.bind_inv q
  obtain ⟨a, st2, qa, q2⟩ := M.bind_inv qa
  obtain ⟨e, rfl⟩ := M.o_inv q2
  refine h os as st γ σ H a _ S qa _ fun x H1 as1 g1 S1 px => ⟨b, rd_bl e px, ?_⟩
  cases b with
  | true => exact h' os as1 _ γ σ H1 c st' S1 q _ fun v H2 as2 g2 S2 p => k v H2 as2 (g1.trans g2) S2 p
  | false => cases q; exact k _ H1 as1 g1 S1 rfl
theorem ev_not (h : EvR F ta δ wa) : EvW F (tNotV ta) δ (op1 notU wa) := fun os as st γ σ H c st' S q QQ k => by
  obtain ⟨a, st1, qa, q⟩ := M.bind_inv q
  obtain ⟨e, rfl⟩ := M.o_inv q
  refine h os as st γ σ H a _ S qa _ fun x H1 as1 g1 S1 px => ?_
  cases a <;> simp [notU] at e
  subst e
  exact ⟨_, px, k _ H1 as1 g1 S1 rfl⟩
theorem evp_if {P : PP U} {wa wb : M U} (h : EvT F tt δ wt) (ha : EvP F P ta δ wa) (hb : EvP F P tb δ wb) (tr : ∀ os as H H0 u v H', (∀ a, H' a = none → H a = none) → P os as H' u v H0 → P os as H u v H0) : EvP F P (tIf tt ta tb) δ (iteW wt wa wb) := fun os as st γ σ H c st' S q QQ k => by
  obtain ⟨b, st1, qa, q⟩ := M.bind_inv q
  refine h os as st γ σ H b _ S qa _ fun H1 as1 g1 S1 => ?_
  cases b with
  | true => exact ha os as1 _ γ σ H1 c st' S1 q _ fun v H2 as2 g2 S2 p => k v H2 as2 (g1.trans g2) S2 (tr _ _ _ _ _ _ _ (fun a => g1.fresh) p)
  | false => exact hb os as1 _ γ σ H1 c st' S1 q _ fun v H2 as2 g2 S2 p => k v H2 as2 (g1.trans g2) S2 (tr _ _ _ _ _ _ _ (fun a => g1.fresh) p)
theorem ev_if (h : EvT F tt δ wt) (ha : EvW F ta δ wa) (hb : EvW F tb δ wb) : EvW F (tIf tt ta tb) δ (iteW wt wa wb) := evp_if h ha hb fun _ _ _ _ _ _ _ _ p => p
theorem ev_chain {r r' : R2} {f g : U → U → Option U} (hf : OpOk F r f) (hg : OpOk F r' g) (ha : EvR F ta δ wa) (hb : EvR F tb δ wb) (hc : EvR F tc δ wc) : EvW F (tChain r r' ta tb tc) δ (chainW f g wa wb wc) := fun os as st γ σ H c st' S q QQ k => by
  obtain ⟨a, st1, qa, q⟩ := M.bind_inv q
  obtain ⟨b, st2, qb, q⟩ := M.bind_inv q
  obtain ⟨z, st3, qz, q⟩ := M.bind_inv q
  obtain ⟨y, st4, qy, qz2⟩ := M.bind_inv (show M.bind (M.o (f a b)) (fun a => M.o (boolU a)) st2 = _ from qz)
  obtain ⟨ey, rfl⟩ := M.o_inv qy
  obtain ⟨ez, rfl⟩ := M.o_inv qz2
  refine ha os as st γ σ H a st1 S qa _ fun x H1 as1 g1 S1 px => hb os as1 st1 γ σ H1 b _ S1 qb _ fun y' H2 as2 g2 S2 py => ?_
  refine hf os as2 H2 a b y x y' S2.ok (rd_go g2 px) py ey _ fun v H3 e3 p3 => ⟨z, rd_bl (F := F) (os := os) (as := as2) (H := H3) ez (rd_of_im p3), ?_⟩
  have g3 := (g1.trans g2).trans (Go.of_ex (as := as2) e3)
  cases z with
  | false => cases q; exact k _ H3 as2 g3 (S2.ex e3) rfl
  | true =>
    obtain ⟨c', st5, qc, q⟩ := M.bind_inv q
    obtain ⟨ec, rfl⟩ := M.o_inv q
    refine hc os as2 _ γ σ H3 c' _ (S2.ex e3) qc _ fun u H4 as4 g4 S4 pu => ?_
    exact hg os as4 H4 b c' c y' u S4.ok (rd_go g4 (rd_go (Go.of_ex e3) py)) pu ec QQ fun v H5 e5 p5 => k v H5 as4 ((g3.trans g4).trans (Go.of_ex e5)) (S4.ex e5) p5
theorem ea_nil : EvAW F tNil δ nilA := fun os as st γ σ H us st' S q QQ k => by cases q; exact k [] H as (Go.refl _ _) S rfl
theorem ea_cons {tr : TA} {wr : M (List U)} (ha : EvW F ta δ wa) (hr : EvAW F tr δ wr) : EvAW F (tCons ta tr) δ (consA wa wr) := fun os as st γ σ H us st' S q QQ k => by
  obtain ⟨a, st1, qa, q⟩ := M.bind_inv q
  obtain ⟨r, st2, qr, q⟩ := M.bind_inv q
  cases q
  exact ha os as st γ σ H a _ S qa _ fun x H1 as1 g1 S1 px => hr os as1 st1 γ σ H1 r _ S1 qr _ fun vs H2 as2 g2 S2 pv => k (x :: vs) H2 as2 (g1.trans g2) S2 ⟨x, vs, rfl, im_go g2 px, pv⟩
theorem ev_tup {t : TA} {wl : M (List U)} (h : EvAW F t δ wl) : EvW F (tTup t) δ (tupW wl) := fun os as st γ σ H c st' S q QQ k => by
  obtain ⟨us, st1, qa, q⟩ := M.bind_inv q
  obtain ⟨e, rfl⟩ := M.o_inv q
  by_cases hl : us.length ≤ sizeLine
  · rw [if_pos hl] at e
    cases e
    exact h os as st γ σ H us _ S qa _ fun vs H1 as1 g1 S1 pv => ⟨by rw [imAll_len pv]; exact hl, fun p hp => k _ _ as1 (g1.trans (Go.of_ex (Ex.new hp))) (S1.ex (Ex.new hp)) ⟨p, vs, rfl, upd_same, imAll_st (RB.of_ex (Ex.new hp)) _ _ pv⟩⟩
  · rw [if_neg hl] at e; cases e
theorem flo_cons {os : Os} {p : Nat × List Addr} : flo (p :: os) = p.2 ++ flo os := rfl
theorem ban_cons {os : Os} {as : SA} {k : Nat} {A : List Addr} {a : Addr} : ban F ((k, A) :: os) as a ↔ a ∈ A ∨ ban F os as a := by
  unfold ban
  rw [flo_cons, List.mem_append]
  constructor
  · rintro (h | (h | h) | h)
    · exact .inr (.inl h)
    · exact .inl h
    · exact .inr (.inr (.inl h))
    · exact .inr (.inr (.inr h))
  · rintro (h | h | h | h)
    · exact .inr (.inl (.inl h))
    · exact .inl h
    · exact .inr (.inl (.inr h))
    · exact .inr (.inr h)
theorem sub_cons {os : Os} {as : SA} {k : Nat} {A : List Addr} {H : Hp} (hA : ∀ a ∈ A, H a = none) : ∀ a, H a ≠ none → ban F ((k, A) :: os) as a → ban F os as a := fun a n b => (ban_cons.mp b).elim (fun z => absurd (hA a z) n) id
theorem SDo.grow {os : Os} {as : SA} {st : Sto} {γ : List (U × V)} {H H' : Hp} {σ : L2.St} {k : Nat} {p : Addr} (S : SDo F os as st γ H σ δ) (hk : k ∉ os.map (·.1)) (hp : H p = none) (e : Ex H H') (hp' : H' p ≠ none) : SDo F ((k, [p]) :: os) as st γ H' σ δ := by
  have hA : ∀ a ∈ [p], H a = none := fun a m => by rw [List.mem_singleton] at m; rw [m]; exact hp
  have sb := sub_cons (F := F) (os := os) (as := as) (k := k) hA
  have up : ∀ u v, im F.G (rts as) (ban F os as) u v H → im F.G (rts as) (ban F ((k, [p]) :: os) as) u v H' := fun u v h => im_st (RB.of_ex e) _ _ (im_sub sb _ _ h)
  have tp : ∀ a xs, H a = some (.tup xs) → H' a = some (.tup xs) := fun a xs h => e _ _ h
  have kp : ∀ a, H a ≠ none → H' a = H a := fun a n => by
    cases q : H a with
    | none => exact absurd q n
    | some o => exact e a o q
  refine ⟨fun q m => up _ _ (S.gh q m), S.rel.trans (Go.of_ex e), fun a b => ?_, ?_, List.nodup_cons.mpr ⟨hk, S.ix⟩, fun a m => ?_, fun a z => ?_, StOk.mono up tp (fun a m => kp a (S.ok a (.inr (.inr m)))) S.sto, S.len, fun i x e1 => ?_⟩
  · rcases ban_cons.mp b with z | z
    · rw [List.mem_singleton] at z; rw [z]; exact hp'
    · rw [kp a (S.ok a z)]; exact S.ok a z
  · rw [flo_cons]
    show ([p] ++ flo os ++ fl as).Nodup
    rw [List.append_assoc]
    refine List.nodup_append.mpr ⟨by simp, S.nd, fun a m b q e => ?_⟩
    rw [List.mem_singleton] at m
    subst m e
    exact S.ok _ ((List.mem_append.mp q).elim (fun z => .inr (.inl z)) fun z => .inr (.inr z)) hp
  · rcases List.mem_append.mp (show a ∈ [p] ++ flo os from m) with z | z
    · rw [List.mem_singleton] at z; rw [z]; exact S.rel.fresh hp
    · exact S.new a z
  · rcases z with z | z
    · rcases List.mem_append.mp (show a ∈ [p] ++ flo os from z) with z | z
      · rw [List.mem_singleton] at z; rw [z]; exact fun b => S.ok p (.inl b) hp
      · exact S.nb a (.inl z)
    · exact S.nb a (.inr z)
  · obtain ⟨v, h1, h2⟩ := S.at_ i x e1
    refine ⟨v, h1, ?_⟩
    match x, h2 with
    | .im u, h2 => exact up _ _ h2
    | .raw _, h2 => exact h2
    | .own sh u, ⟨A, m, h2⟩ => exact ⟨A, List.mem_cons_of_mem _ m, own_mono up tp _ _ _ _ (fun a z => kp a (S.ok a (.inr (.inl (mem_flo m z))))) h2⟩
theorem en_lst {t : TA} {wl : M (List U)} (h : EvAW F t δ wl) : EvN F (.lst .leaf) (tLst t) δ (lstW wl) := fun os as st γ σ H c st' S q QQ k => by
  obtain ⟨us, st1, qa, q⟩ := M.bind_inv q
  obtain ⟨e, rfl⟩ := M.o_inv q
  by_cases hl : us.length ≤ sizeLine
  · rw [if_pos hl] at e
    cases e
    refine h os as st γ σ H us _ S qa _ fun vs H1 as1 g1 S1 pv => ⟨by rw [imAll_len pv]; exact hl, fun p hp => k _ _ as1 [p] (g1.trans (Go.of_ex (Ex.new hp))) (fun k hk => S1.grow hk hp (Ex.new hp) (by rw [upd_same]; exact fun z => nomatch z)) ?_ fun a m => ?_⟩
    · refine own_lst.mpr ⟨p, vs, rfl, rfl, upd_same, imAll_st (RB.of_ex (Ex.new hp)) _ _ (imAll_sub (sub_cons fun a m => ?_) _ _ pv)⟩
      rw [List.mem_singleton] at m; rw [m]; exact hp
    · rw [List.mem_singleton] at m; rw [m]; exact g1.fresh hp
  · rw [if_neg hl] at e; cases e
theorem own_im {B : Bn} {G : Cxt} {rs : List Addr} {H : Hp} : ∀ (s : Sh) (u : U) (v : V) (A : List Addr), (∀ a ∈ A, ¬ B a) → ownD G rs B s u v H A → im G rs B u v H := by
  have key : ∀ (P : Nat → U → V → Hp → List Addr → Prop) (us : List U) (n : Nat) (vs : List V) (A : List Addr), (∀ n u v A1, (∀ a ∈ A1, a ∈ A) → P n u v H A1 → im G rs B u v H) → ownZ P n us vs H A → imAll G rs B us vs H := by
    intro P us
    induction us with
    | nil => intro n vs A _ h; exact h.1
    | cons u us ih =>
      rintro n vs A f ⟨v, r, A1, A2, e1, e2, h1, h2⟩
      exact ⟨v, r, e1, f n u v A1 (fun a m => by rw [e2]; exact List.mem_append_left _ m) h1, ih (n + 1) r A2 (fun n u v A3 s p => f n u v A3 (fun a m => by rw [e2]; exact List.mem_append_right _ (s a m)) p) h2⟩
  intro s
  induction s with
  | leaf => intro u v A _ h; exact h.2
  | lst s ih =>
    intro u v A nb h
    cases u <;> first | exact h.elim | skip
    obtain ⟨a, vs, A', e1, e2, h1, q⟩ := h
    exact ⟨a, vs, e1, nb a (by rw [e2]; exact List.mem_cons_self), h1, key _ _ _ _ _ (fun n u v A1 m p => ih u v A1 (fun a z => nb a (by rw [e2]; exact List.mem_cons_of_mem _ (m a z))) p) q⟩
  | dct s ih =>
    intro u v A nb h
    cases u <;> first | exact h.elim | skip
    case' dcN =>
      obtain ⟨a, vs, A', e1, e2, h1, l, q1, q⟩ := h
      exact ⟨a, vs, e1, nb a (by rw [e2]; exact List.mem_cons_self), .inl h1, l, q1, key _ _ _ _ _ (fun n u v A1 m p => ih u v A1 (fun a z => nb a (by rw [e2]; exact List.mem_cons_of_mem _ (m a z))) p) q⟩
    all_goals
      obtain ⟨a, vs, A', e1, e2, h1, l, q⟩ := h
      exact ⟨a, vs, e1, nb a (by rw [e2]; exact List.mem_cons_self), .inl h1, l, key _ _ _ _ _ (fun n u v A1 m p => ih u v A1 (fun a z => nb a (by rw [e2]; exact List.mem_cons_of_mem _ (m a z))) p) q⟩
  | tup f ih =>
    intro u v A nb h
    cases u <;> first | exact h.elim | skip
    obtain ⟨a, vs, e1, h1, q⟩ := h
    exact ⟨a, vs, e1, h1, key _ _ _ _ _ (fun n u v A1 m p => ih n u v A1 (fun a z => nb a (m a z)) p) q⟩
  | obj f ih =>
    intro u v A nb h
    cases u <;> first | exact h.elim | skip
    obtain ⟨a, dx, vs, A', e1, e2, h1, l, q⟩ := h
    exact ⟨a, dx, vs, e1, nb a (by rw [e2]; exact List.mem_cons_self), h1, l, key _ _ _ _ _ (fun n u v A1 m p => ih _ u v A1 (fun a z => nb a (by rw [e2]; exact List.mem_cons_of_mem _ (m a z))) p) q⟩
theorem nodup_fresh (l : List Nat) (n : Nat) : ∃ k, k ∉ l ∧ n ≤ k := by
  have key : ∀ l : List Nat, ∃ m, ∀ x ∈ l, x < m := by
    intro l
    induction l with
    | nil => exact ⟨0, fun _ h => nomatch h⟩
    | cons a l ih =>
      obtain ⟨m, h⟩ := ih
      refine ⟨max m (a + 1), fun x hx => ?_⟩
      rcases List.mem_cons.mp hx with rfl | hx
      · omega
      · have := h x hx; omega
  obtain ⟨m, h⟩ := key l
  refine ⟨max m n, fun z => ?_, by omega⟩
  have := h _ z
  omega
theorem SDo.ungrow {os : Os} {as : SA} {st : Sto} {γ : List (U × V)} {H : Hp} {σ : L2.St} {k : Nat} {A : List Addr} (S : SDo F ((k, A) :: os) as st γ H σ δ) (hk : δ.length ≤ k) : SDo F os as st γ H σ δ := by
  have sb : ∀ a, H a ≠ none → ban F os as a → ban F ((k, A) :: os) as a := fun a _ b => ban_cons.mpr (.inr b)
  have up : ∀ u v, im F.G (rts as) (ban F ((k, A) :: os) as) u v H → im F.G (rts as) (ban F os as) u v H := fun u v h => im_sub sb _ _ h
  refine ⟨fun q m => up _ _ (S.gh q m), S.rel, fun a b => S.ok a (ban_cons.mpr (.inr b)), (List.nodup_append.mp (show (A ++ (flo os ++ fl as)).Nodup by rw [← List.append_assoc]; exact S.nd)).2.1, (List.nodup_cons.mp S.ix).2, fun a m => S.new a (List.mem_append_right A m), fun a z => S.nb a (z.imp (fun m => List.mem_append_right A m) id), StOk.mono up (fun _ _ h => h) (fun _ _ => rfl) S.sto, S.len, fun i x e1 => ?_⟩
  obtain ⟨v, h1, h2⟩ := S.at_ i x e1
  refine ⟨v, h1, ?_⟩
  match x, h2 with
  | .im u, h2 => exact up _ _ h2
  | .raw _, h2 => exact h2
  | .own sh u, ⟨A', m, h2⟩ =>
    refine ⟨A', ?_, own_mono up (fun _ _ h => h) _ _ _ _ (fun _ _ => rfl) h2⟩
    rcases List.mem_cons.mp m with e | m
    · have := getElem?_lt e1
      have : i = k := (Prod.mk.inj e).1
      omega
    · exact m
theorem EvN.ew {s : Sh} (h : EvN F s te δ w) : EvW F te δ w := fun os as st γ σ H a st' S q QQ k => h os as st γ σ H a st' S q QQ fun v H' as' A g S' p n => by
  obtain ⟨j, hj, hl⟩ := nodup_fresh (os.map (·.1)) δ.length
  have S1 := S' j hj
  have nb : ∀ a ∈ A, ¬ ban F os as' a := fun a m b => by
    rcases b with b | b | b
    · exact S1.nb a (.inl (List.mem_append_left _ m)) b
    · exact (List.nodup_append.mp (show (A ++ (flo os ++ fl as')).Nodup by rw [← List.append_assoc]; exact S1.nd)).2.2 a m a (List.mem_append_left _ b) rfl
    · exact (List.nodup_append.mp (show (A ++ (flo os ++ fl as')).Nodup by rw [← List.append_assoc]; exact S1.nd)).2.2 a m a (List.mem_append_right _ b) rfl
  exact k v H' as' g (S1.ungrow hl) (own_im s _ _ A nb (own_mono (fun u v h => im_sub (fun a _ b => ban_cons.mpr (.inr b)) u v h) (fun _ _ h => h) _ _ _ _ (fun _ _ => rfl) p))
theorem eo_none : EvO F tNoPart δ noP := fun os as st γ σ H c st' S q QQ k => by cases q; exact k H as (Go.refl _ _) S
theorem eo_some (ha : EvR F te δ wa) : EvO F (tPart te) δ (someP wa) := fun os as st γ σ H c st' S q QQ k => by
  obtain ⟨a, st1, qa, q⟩ := M.bind_inv q
  obtain ⟨e, rfl⟩ := M.o_inv q
  refine ha os as st γ σ H a _ S qa _ fun x H1 as1 g1 S1 px => ?_
  cases a <;> simp [intU] at e
  subst e
  exact ⟨_, px, k H1 as1 g1 S1⟩
theorem cutV_im {G : Cxt} {rs : List Addr} {B : Bn} {H : Hp} {us : List U} {vs : List V} {lo hi : Option Int} (h : imAll G rs B us vs H) : imAll G rs B (cut us lo hi) (cutV vs lo hi) H := by
  unfold EL.cut cutV
  rw [imAll_len h]
  exact imAll_take _ (imAll_drop _ h)
theorem ev_sl {tl th : TO} {wl wh : M (Option Int)} (ha : EvR F te δ wa) (hl : EvO F tl δ wl) (hh : EvO F th δ wh) : EvW F (tSl (rSlU F.G.K) te tl th) δ (slW wa wl wh) := fun os as st γ σ H c st' S q QQ k => by
  obtain ⟨a, st1, qa, q⟩ := M.bind_inv q
  obtain ⟨lo, st2, ql, q⟩ := M.bind_inv q
  obtain ⟨hi, st3, qh, q⟩ := M.bind_inv q
  obtain ⟨e, rfl⟩ := M.o_inv q
  refine ha os as st γ σ H a _ S qa _ fun x H1 as1 g1 S1 px => hl os as1 st1 γ σ H1 lo _ S1 ql _ fun H2 as2 g2 S2 => hh os as2 st2 γ σ H2 hi _ S2 qh _ fun H3 as3 g3 S3 => ?_
  have px := rd_go g3 (rd_go g2 px)
  have g := (g1.trans g2).trans g3
  cases a <;> simp only [slU] at e <;> first | cases e | skip
  · obtain ⟨a, vs, e, s, pv⟩ := px
    refine .inr ⟨a, vs, e, EL.sqT_of s, fun z => ?_, fun _ p hp => k _ _ as3 (g.trans (Go.of_ex (Ex.new hp))) (S3.ex (Ex.new hp)) ⟨p, _, rfl, upd_same, imAll_st (RB.of_ex (Ex.new hp)) _ _ (cutV_im pv)⟩⟩
    refine k _ H3 as3 g S3 ⟨a, vs, rfl, s, ?_⟩
    have := cutV_im (lo := lo) (hi := hi) pv
    unfold cutV at this
    rw [z.1, z.2, List.drop_zero, Nat.sub_zero, List.take_length] at this
    exact this
  · obtain ⟨a, vs, e, nb, s, pv⟩ := px
    exact .inl ⟨a, vs, e, .inl (.inl s), fun p hp => k _ _ as3 (g.trans (Go.of_ex (Ex.new hp))) (S3.ex (Ex.new hp)) ⟨p, _, rfl, S3.notban hp, upd_same, imAll_st (RB.of_ex (Ex.new hp)) _ _ (cutV_im pv)⟩⟩
  · obtain ⟨a, vs, e, s, pv⟩ := px
    exact .inl ⟨a, vs, e, s.sq, fun p hp => k _ _ as3 (g.trans (Go.of_ex (Ex.new hp))) (S3.ex (Ex.new hp)) ⟨p, _, rfl, S3.notban hp, upd_same, imAll_st (RB.of_ex (Ex.new hp)) _ _ (cutV_im pv)⟩⟩
end
section
variable {F : Fr} {os : Os} {as as' : SA} {st : Sto} {γ : List (U × V)} {H H' : Hp} {σ : L2.St} {δ : Dl} {v : V} {u : U} {i : Nat}
theorem mem_filt {os : Os} {p : Nat × List Addr} (h : p ∈ os.filter fun q => decide (q.1 ≠ i)) : p ∈ os ∧ p.1 ≠ i := by
  have := List.mem_filter.mp h
  exact ⟨this.1, by simpa using this.2⟩
theorem flo_filt {a : Addr} (h : a ∈ flo (os.filter fun q => decide (q.1 ≠ i))) : a ∈ flo os := by
  obtain ⟨A, m, h⟩ := List.mem_flatten.mp h
  obtain ⟨p, mp, rfl⟩ := List.mem_map.mp m
  exact mem_flo (i := p.1) (A := p.2) (mem_filt mp).1 h
theorem sub_flat {α : Type} {l l' : List (List α)} (h : l'.Sublist l) : l'.flatten.Sublist l.flatten := by
  induction h with
  | slnil => exact List.Sublist.slnil
  | @cons l1 l2 a _ ih => rw [List.flatten_cons]; exact ih.trans (List.sublist_append_right _ _)
  | @cons_cons l1 l2 a _ ih => rw [List.flatten_cons, List.flatten_cons]; exact List.Sublist.append (List.Sublist.refl _) ih
theorem SDo.drop (s : SDo F os as st γ H σ δ) (i : Nat) : SDo F (os.filter fun q => decide (q.1 ≠ i)) as st γ H σ (δ.set i none) := by
  have sb : ∀ a, H a ≠ none → ban F (os.filter fun q => decide (q.1 ≠ i)) as a → ban F os as a := fun a _ b => b.elim .inl fun b => b.elim (fun z => .inr (.inl (flo_filt z))) fun z => .inr (.inr z)
  have sl : (flo (os.filter fun q => decide (q.1 ≠ i))).Sublist (flo os) := sub_flat ((List.filter_sublist (l := os)).map _)
  refine ⟨fun p m => im_sub sb _ _ (s.gh p m), s.rel, fun a b => s.ok a (b.elim .inl fun b => b.elim (fun z => .inr (.inl (flo_filt z))) fun z => .inr (.inr z)), (List.Sublist.append sl (List.Sublist.refl _)).nodup s.nd, ((List.filter_sublist (l := os)).map _).nodup s.ix, fun a m => s.new a (flo_filt m), fun a z => s.nb a (z.imp flo_filt id),
    StOk.mono (fun _ _ h => im_sub sb _ _ h) (fun _ _ h => h) (fun _ _ => rfl) s.sto, by rw [List.length_set]; exact s.len, fun j x e => ?_⟩
  by_cases hj : i = j
  · subst hj
    have hl : i < δ.length := by have := getElem?_lt e; rwa [List.length_set] at this
    rw [List.getElem?_set_self hl] at e; cases e
  · rw [List.getElem?_set_ne hj] at e
    obtain ⟨w, h1, h2⟩ := s.at_ j x e
    refine ⟨w, h1, ?_⟩
    match x, h2 with
    | .im u, h2 => exact im_sub sb _ _ h2
    | .raw _, h2 => exact h2
    | .own sh u, ⟨A, m, h2⟩ => exact ⟨A, List.mem_filter.mpr ⟨m, by simpa using fun z => hj z.symm⟩, own_mono (fun _ _ h => im_sub sb _ _ h) (fun _ _ h => h) _ _ _ _ (fun _ _ => rfl) h2⟩
theorem SDo.own {k : Nat} {A : List Addr} {sh : Sh} (S : SDo F ((k, A) :: os) as st γ H σ δ) (hk : δ.length ≤ k) (h : ownD F.G (rts as) (ban F ((0, A) :: os) as) sh u v H A) :
    SDo F ((i, A) :: os.filter fun q => decide (q.1 ≠ i)) as st γ H (σ.set i (some v)) (δ.set i (some (.own sh u))) := by
  have fs : (List.filter (fun q => decide (q.1 ≠ i)) os).Sublist os := List.filter_sublist
  have sl : (flo (os.filter fun q => decide (q.1 ≠ i))).Sublist (flo os) := sub_flat (fs.map _)
  have bs : ∀ a, ban F ((i, A) :: os.filter fun q => decide (q.1 ≠ i)) as a → ban F ((k, A) :: os) as a := fun a b => ban_cons.mpr ((ban_cons.mp b).imp id fun b => b.elim .inl fun b => b.elim (fun z => .inr (.inl (flo_filt z))) fun z => .inr (.inr z))
  have up : ∀ u v, im F.G (rts as) (ban F ((k, A) :: os) as) u v H → im F.G (rts as) (ban F ((i, A) :: os.filter fun q => decide (q.1 ≠ i)) as) u v H := fun u v h => im_sub (fun a _ b => bs a b) _ _ h
  have nd : (A ++ (flo os ++ fl as)).Nodup := by rw [← List.append_assoc]; exact S.nd
  refine ⟨fun q m => up _ _ (S.gh q m), S.rel, fun a b => S.ok a (bs a b), ?_, List.nodup_cons.mpr ⟨fun m => ?_, (fs.map _).nodup (List.nodup_cons.mp S.ix).2⟩, fun a m => ?_, fun a z => ?_, StOk.mono up (fun _ _ h => h) (fun _ _ => rfl) S.sto, by rw [List.length_set, List.length_set, S.len], fun j x e => ?_⟩
  · show (A ++ flo _ ++ fl as).Nodup
    rw [List.append_assoc]
    exact (List.Sublist.append (List.Sublist.refl _) (List.Sublist.append sl (List.Sublist.refl _))).nodup nd
  · obtain ⟨p, mp, e⟩ := List.mem_map.mp m
    exact (mem_filt mp).2 e
  · rcases List.mem_append.mp (show a ∈ A ++ flo _ from m) with z | z
    · exact S.new a (List.mem_append_left _ z)
    · exact S.new a (List.mem_append_right A (flo_filt z))
  · refine S.nb a (z.imp (fun z => ?_) id)
    rcases List.mem_append.mp (show a ∈ A ++ flo _ from z) with z | z
    · exact List.mem_append_left _ z
    · exact List.mem_append_right A (flo_filt z)
  · by_cases hj : i = j
    · subst hj
      have hl : i < δ.length := by have := getElem?_lt e; rwa [List.length_set] at this
      rw [List.getElem?_set_self hl] at e
      cases e
      exact ⟨v, List.getElem?_set_self (by rw [S.len]; exact hl), A, List.mem_cons_self, own_mono up (fun _ _ h => h) _ _ _ _ (fun _ _ => rfl) h⟩
    · rw [List.getElem?_set_ne hj] at e
      obtain ⟨w, h1, h2⟩ := S.at_ j x e
      refine ⟨w, by rw [List.getElem?_set_ne hj]; exact h1, ?_⟩
      match x, h2 with
      | .im u, h2 => exact up _ _ h2
      | .raw _, h2 => exact h2
      | .own sh u, ⟨A', m, h2⟩ =>
        refine ⟨A', List.mem_cons_of_mem _ (List.mem_filter.mpr ⟨?_, by simpa using fun z => hj z.symm⟩), own_mono up (fun _ _ h => h) _ _ _ _ (fun _ _ => rfl) h2⟩
        rcases List.mem_cons.mp m with z | m
        · have := getElem?_lt e
          have : j = k := (Prod.mk.inj z).1
          omega
        · exact m
end
def seqO {S S' L : Type} (w : M (Out S L)) (k : S → M (Out S' L)) : M (Out S' L) := .bind w fun o => match o with
  | .nx s => k s
  | .rt u => .ret (.rt u)
  | .bk l => .ret (.bk l)
  | .ct l => .ret (.ct l)
def rtO {S L : Type} (w : M U) : M (Out S L) := .bind w fun u => .ret (.rt u)
def nxO {S L : Type} (s : S) : M (Out S L) := .ret (.nx s)
def fnM (w : M (Out Unit Unit)) : M U := .bind w fun o => match o with
  | .rt u => .ret u
  | .nx _ => .ret .non
  | _ => .fail
def un2 {α : Type} (u : U) (k : U → U → M α) : M α := match u with
  | .tup [a, b] => k a b
  | _ => .fail
def un3 {α : Type} (u : U) (k : U → U → U → M α) : M α := match u with
  | .tup [a, b, c] => k a b c
  | _ => .fail
def un6 {α : Type} (u : U) (k : U → U → U → U → U → U → M α) : M α := match u with
  | .tup [a, b, c, d, e, f] => k a b c d e f
  | _ => .fail
def forO {S L : Type} (f : U → S → M (Out S S)) : List U → S → M (Out S L)
  | [], s => nxO s
  | x :: xs, s => .bind (f x s) fun o => match o with
    | .nx s' => forO f xs s'
    | .ct s' => forO f xs s'
    | .bk s' => nxO s'
    | .rt u => .ret (.rt u)
def whileN {S L : Type} (c : S → M Bool) (b : S → M (Out S S)) : Nat → S → M (Out S L)
  | 0, _ => .fail
  | n + 1, s => .bind (c s) fun t => if t = true then .bind (b s) fun o => match o with
    | .nx s' => whileN c b n s'
    | .ct s' => whileN c b n s'
    | .bk s' => nxO s'
    | .rt u => .ret (.rt u)
    else nxO s
open Classical in
noncomputable def whileO {S L : Type} (c : S → M Bool) (b : S → M (Out S S)) (s : S) : M (Out S L) := fun st => if h : ∃ n r, whileN (L := L) c b n s st = some r then whileN c b h.choose s st else none
section
variable {S S' L : Type} {c : S → M Bool} {b : S → M (Out S S)}
theorem M.bind_some {α β : Type} {w : M α} {f : α → M β} {st : Sto} {r : Res β × Sto} (h : M.bind w f st = some r) : (∃ a st1, w st = some (.ok a, st1) ∧ f a st1 = some r) ∨ ∃ e st1, w st = some (.er e, st1) ∧ r = (.er e, st1) := by
  unfold M.bind at h
  cases e : w st with
  | none => rw [e] at h; cases h
  | some p =>
    obtain ⟨q, st1⟩ := p
    rw [e] at h
    cases q with
    | ok a => exact .inl ⟨a, st1, rfl, h⟩
    | er x => exact .inr ⟨x, st1, rfl, (Option.some.inj h).symm⟩
theorem M.bind_of {α β : Type} {w : M α} {f : α → M β} {st st1 : Sto} {a : α} (h : w st = some (.ok a, st1)) : M.bind w f st = f a st1 := by
  unfold M.bind; rw [h]
theorem M.bind_er {α β : Type} {w : M α} {f : α → M β} {st st1 : Sto} {e : U} (h : w st = some (.er e, st1)) : M.bind w f st = some (.er e, st1) := by
  unfold M.bind; rw [h]
theorem whileN_succ {n : Nat} : ∀ {s : S} {st : Sto} {r : Res (Out S L) × Sto}, whileN c b n s st = some r → whileN c b (n + 1) s st = some r := by
  induction n with
  | zero => intro s st r h; cases h
  | succ n ih =>
    intro s st r h
    rw [whileN] at h ⊢
    rcases M.bind_some h with ⟨t, st1, e1, h⟩ | ⟨e, st1, e1, rfl⟩
    · rw [M.bind_of e1]
      cases t with
      | false => exact h
      | true =>
        simp only [if_true] at h ⊢
        rcases M.bind_some h with ⟨o, st2, e2, h⟩ | ⟨e, st2, e2, rfl⟩
        · rw [M.bind_of e2]
          cases o with
          | nx s' => exact ih h
          | ct s' => exact ih h
          | bk s' => exact h
          | rt u => exact h
        · rw [M.bind_er e2]
    · rw [M.bind_er e1]
theorem whileN_le {n m : Nat} (hm : n ≤ m) {s : S} {st : Sto} {r : Res (Out S L) × Sto} (h : whileN c b n s st = some r) : whileN c b m s st = some r := by
  induction hm with
  | refl => exact h
  | step _ ih => exact whileN_succ ih
theorem whileO_of {n : Nat} {s : S} {st : Sto} {r : Res (Out S L) × Sto} (h : whileN c b n s st = some r) : whileO c b s st = some r := by
  unfold whileO
  have hx : ∃ n r, whileN (L := L) c b n s st = some r := ⟨n, r, h⟩
  rw [dif_pos hx]
  obtain ⟨r', h'⟩ := hx.choose_spec
  rcases Nat.le_total n hx.choose with z | z
  · exact whileN_le z h
  · rw [h']
    have := whileN_le z h'
    rw [h] at this
    exact this.symm
theorem whileO_inv {s : S} {st : Sto} {r : Res (Out S L) × Sto} (h : whileO c b s st = some r) : ∃ n, whileN c b n s st = some r := by
  unfold whileO at h
  split at h
  · exact ⟨_, h⟩
  · cases h
end
def EvF (F : Fr) : TE → Dl → M U → Prop := EvP F fun os as _ u v H => im F.G (rts as) (ban F [] as) u v H
def EvAF (F : Fr) : TA → Dl → M (List U) → Prop := EvA F fun os as us vs H => imAll F.G (rts as) (ban F [] as) us vs H
section
variable {F : Fr} {δ : Dl} {te ta : TE} {w wa : M U}
theorem im_nil {os : Os} {as : SA} {u : U} {v : V} {H : Hp} (h : im F.G (rts as) (ban F os as) u v H) : im F.G (rts as) (ban F [] as) u v H := im_sub (fun a _ b => b.elim .inl fun b => b.elim (fun z => nomatch z) fun z => .inr (.inr z)) _ _ h
theorem im_go0 {as as' : SA} {H H' : Hp} (g : Go as as' H H') {u : U} {v : V} (h : im F.G (rts as) (ban F [] as) u v H) : im F.G (rts as') (ban F [] as') u v H' := im_go g h
theorem EvW.f (h : EvW F te δ w) : EvF F te δ w := fun os as st γ σ H a st' S q QQ k => h os as st γ σ H a st' S q QQ fun v H' as' g S' p => k v H' as' g S' (im_nil p)
theorem eaf_nil : EvAF F tNil δ nilA := fun os as st γ σ H us st' S q QQ k => by cases q; exact k [] H as (Go.refl _ _) S rfl
theorem eaf_cons {tr : TA} {wr : M (List U)} (ha : EvF F ta δ wa) (hr : EvAF F tr δ wr) : EvAF F (tCons ta tr) δ (consA wa wr) := fun os as st γ σ H us st' S q QQ k => by
  obtain ⟨a, st1, qa, q⟩ := M.bind_inv q
  obtain ⟨r, st2, qr, q⟩ := M.bind_inv q
  cases q
  exact ha os as st γ σ H a _ S qa _ fun x H1 as1 g1 S1 px => hr os as1 st1 γ σ H1 r _ S1 qr _ fun vs H2 as2 g2 S2 pv => k (x :: vs) H2 as2 (g1.trans g2) S2 ⟨x, vs, rfl, im_go0 g2 px, pv⟩
theorem ef_tup {t : TA} {wl : M (List U)} (h : EvAF F t δ wl) : EvF F (tTup t) δ (tupW wl) := fun os as st γ σ H c st' S q QQ k => by
  obtain ⟨us, st1, qa, q⟩ := M.bind_inv q
  obtain ⟨e, rfl⟩ := M.o_inv q
  by_cases hl : us.length ≤ sizeLine
  · rw [if_pos hl] at e
    cases e
    exact h os as st γ σ H us _ S qa _ fun vs H1 as1 g1 S1 pv => ⟨by rw [imAll_len pv]; exact hl, fun p hp => k _ _ as1 (g1.trans (Go.of_ex (Ex.new hp))) (S1.ex (Ex.new hp)) ⟨p, vs, rfl, upd_same, imAll_st (RB.of_ex (Ex.new hp)) _ _ pv⟩⟩
  · rw [if_neg hl] at e; cases e
theorem SDo.rt {os : Os} {as : SA} {st : Sto} {γ : List (U × V)} {H : Hp} {σ : L2.St} {u : U} {v : V} (S : SDo F os as st γ H σ δ) (h : im F.G (rts as) (ban F [] as) u v H) (hr : F.R as st H u v) : Rt F as st H u v :=
  ⟨S.rel, fun a b => S.ok a (b.elim .inl fun b => b.elim (fun z => nomatch z) fun z => .inr (.inr z)), (List.nodup_append.mp S.nd).2.1, fun a m => S.nb a (.inr m), StOk.mono (fun _ _ h => im_nil h) (fun _ _ h => h) (fun _ _ => rfl) S.sto, h, hr⟩
end
section
variable {F : Fr} {S S1 L : Type} {δ : Dl} {te ta tb : TE} {tt : TT} {w wa wb : M U} {wt : M Bool} {t t1 t2 u1 : TS} {δn : S → Dl} {δ1 : S1 → Dl} {δl : L → Dl}
theorem blk_last {wo : M (Out S L)} (h : Blk F (tSeq t tNext) δ wo δn δl) : Blk F t δ wo δn δl := h
theorem blk_end {s : S} (h : Weak δ (δn s)) : Blk F tNext δ (nxO s) δn δl := fun D os as st γ σ H o st' Q q P => by
  cases q; exact P os as σ H (Q.weak h)
theorem blk_ret (h : EvF F te δ w) (hR : F.R = noR := by rfl) : Blk F (tRet te) δ (rtO w : M (Out S L)) δn δl := fun D os as st γ σ H o st' Q q P => by
  obtain ⟨a, st1, qa, q⟩ := M.bind_inv q
  cases q
  exact h os as st γ σ H a _ Q qa _ fun v H1 as1 g1 S1 p => P as1 v H1 (S1.rt p (by rw [hR]; trivial))
theorem blk_seq {w1 : M (Out S1 L)} {w2 : S1 → M (Out S L)} (h1 : Blk F t1 δ w1 δ1 δl) (h2 : ∀ s, Blk F t2 (δ1 s) (w2 s) δn δl) : Blk F (tSeq t1 t2) δ (seqO w1 w2) δn δl := fun D os as st γ σ H o st' Q q P => by
  obtain ⟨o1, st1, q1, q⟩ := M.bind_inv q
  refine h1 _ os as st γ σ H o1 st1 Q q1 ?_
  cases o1 with
  | nx s => exact fun os2 as2 σ2 H2 S2 => h2 s D os2 as2 st1 γ σ2 H2 o st' S2 q P
  | rt u => cases q; exact P
  | bk l => cases q; exact P
  | ct l => cases q; exact P
theorem blk_if {wo wu : M (Out S L)} (h : EvT F tt δ wt) (h1 : Blk F t1 δ wo δn δl) (h2 : Blk F t2 δ wu δn δl) : Blk F (tIfS tt t1 t2) δ (iteW wt wo wu) δn δl := fun D os as st γ σ H o st' Q q P => by
  obtain ⟨b, st1, qb, q⟩ := M.bind_inv q
  refine h os as st γ σ H b _ Q qb _ fun H1 as1 g1 S1 => ?_
  cases b with
  | true => exact h1 D os as1 st1 γ σ H1 o st' S1 q P
  | false => exact h2 D os as1 st1 γ σ H1 o st' S1 q P
theorem blk_set {i : Nat} {k : U → M (Out S L)} (h : EvW F te δ w) (h2 : ∀ u, Blk F t2 (δ.set i (some (.im u))) (k u) δn δl) : Blk F (tSeq (tAsg te (gName i)) t2) δ (.bind w k) δn δl := fun D os as st γ σ H o st' Q q P => by
  obtain ⟨u, st1, qu, q⟩ := M.bind_inv q
  exact h os as st γ σ H u _ Q qu _ fun v H1 as1 g1 S1 p => h2 u D os as1 st1 γ _ H1 o st' (S1.set p) q P
theorem blk_own {i : Nat} {s : Sh} {k : U → M (Out S L)} (h : EvN F s te δ w) (h2 : ∀ u, Blk F t2 (δ.set i (some (.own s u))) (k u) δn δl) : Blk F (tSeq (tAsg te (gName i)) t2) δ (.bind w k) δn δl := fun D os as st γ σ H o st' Q q P => by
  obtain ⟨u, st1, qu, q⟩ := M.bind_inv q
  refine h os as st γ σ H u _ Q qu _ fun v H1 as1 A g1 S1 p n => ?_
  obtain ⟨j, hj, hl⟩ := nodup_fresh (os.map (·.1)) δ.length
  exact h2 u D _ as1 st1 γ _ H1 o st' ((S1 j hj).own hl p) q P
theorem blk_frz {i : Nat} {s : Sh} {u : U} {wo : M (Out S L)} (h : δ[i]? = some (some (.own s u))) (h2 : Blk F t (δ.set i (some (.im u))) wo δn δl) : Blk F t δ wo δn δl := fun D os as st γ σ H o st' Q q P => by
  obtain ⟨v, e, A, m, p⟩ := Q.get h
  refine h2 D (os.filter fun q => decide (q.1 ≠ i)) as st γ σ H o st' ?_ q P
  have Q1 := Q.drop i
  have hp : im F.G (rts as) (ban F (os.filter fun q => decide (q.1 ≠ i)) as) u v H := by
    have sb : ∀ a, H a ≠ none → ban F (os.filter fun q => decide (q.1 ≠ i)) as a → ban F os as a := fun a _ b => b.elim .inl fun b => b.elim (fun z => .inr (.inl (flo_filt z))) fun z => .inr (.inr z)
    refine own_im s _ _ A (fun a z b => ?_) (own_mono (fun u v h => im_sub sb u v h) (fun _ _ h => h) _ _ _ _ (fun _ _ => rfl) p)
    rcases b with b | b | b
    · exact Q.nb a (.inl (mem_flo m z)) b
    · obtain ⟨A', m', z'⟩ := List.mem_flatten.mp b
      obtain ⟨q, mq, rfl⟩ := List.mem_map.mp m'
      obtain ⟨mq, ne⟩ := mem_filt mq
      have key : ∀ (l : Os), (flo l).Nodup → (i, A) ∈ l → q ∈ l → i = q.1 := by
        intro l
        induction l with
        | nil => intro _ m; cases m
        | cons r l ih =>
          intro nd m1 m2
          have nd' := List.nodup_append.mp (show (r.2 ++ flo l).Nodup from nd)
          rcases List.mem_cons.mp m1 with e1 | m1 <;> rcases List.mem_cons.mp m2 with e2 | m2
          · rw [e2, ← e1]
          · exact absurd rfl (nd'.2.2 a (by rw [← e1]; exact z) a (mem_flo (i := q.1) (A := q.2) m2 z'))
          · exact absurd rfl (nd'.2.2 a (by rw [← e2]; exact z') a (mem_flo m1 z))
          · exact ih nd'.2.1 m1 m2
      exact ne (key os (List.nodup_append.mp Q.nd).1 m mq).symm
    · exact (List.nodup_append.mp Q.nd).2.2 a (mem_flo m z) a b rfl
  have hs : σ.set i (some v) = σ := by
    apply List.ext_getElem?
    intro j
    by_cases z : i = j
    · subst z
      rw [List.getElem?_set_self (getElem?_lt e), e]
    · rw [List.getElem?_set_ne z]
  have := Q1.set (i := i) (x := .im u) hp
  rw [hs, List.set_set] at this
  exact this
end
end UX
namespace UX
open PySem PySem.Spec PyProof.Rows L2
open EL (Ex RB BOk Bn TK rAddU rMulU rSlU rEqU rNeU rLtU rLenQ rTupQ rListQ rReprD cut iSeqU)
structure WalkU (F : Fr) (J : It) (us : List U) (gh : List (U × V)) : Prop where
  goes : ∀ i os as st γ σ δ H, i < us.length → SDo F os as st (gh ++ γ) H σ δ → J.go i H
  stops : ∀ os as st γ σ δ H, SDo F os as st (gh ++ γ) H σ δ → J.stop us.length H
  yields : ∀ i os as st γ σ δ x H H' u, us[i]? = some u → SDo F os as st (gh ++ γ) H σ δ → J.yld i H x H' → Ex H H' ∧ im F.G (rts as) (ban F os as) u x H'
def Src (F : Fr) (wi : TI) (δ : Dl) (w : M (List U)) : Prop := ∀ os as st γ σ H us st', SDo F os as st γ H σ δ → w st = some (.ok us, st') → ∀ Q : It → Hp → Prop,
  (∀ J H' as' gh, Go as as' H H' → SDo F os as' st' (gh ++ γ) H' σ δ → WalkU F J us gh → Q J H') → wi σ H Q
section
variable {F : Fr} {os : Os} {as : SA} {st : Sto} {γ : List (U × V)} {H : Hp} {σ : L2.St} {δ : Dl}
theorem SDo.ghost (S : SDo F os as st γ H σ δ) {g : List (U × V)} (h : ∀ p ∈ g, im F.G (rts as) (ban F os as) p.1 p.2 H) : SDo F os as st (g ++ γ) H σ δ :=
  ⟨fun p m => (List.mem_append.mp m).elim (h p) (S.gh p), S.rel, S.ok, S.nd, S.ix, S.new, S.nb, S.sto, S.len, S.at_⟩
theorem SDo.unghost {g : List (U × V)} (S : SDo F os as st (g ++ γ) H σ δ) : SDo F os as st γ H σ δ :=
  ⟨fun p m => S.gh p (List.mem_append_right _ m), S.rel, S.ok, S.nd, S.ix, S.new, S.nb, S.sto, S.len, S.at_⟩
end
def itU : U → Option (List U)
  | .tup us => some us
  | .lst us => some us
  | .frl us => some us
  | _ => none
def rng1U : U → Option (List U)
  | .int n => if -(2 ^ 62) ≤ n ∧ n < 2 ^ 62 then some ((List.range n.toNat).map fun i => .int (i : Nat)) else none
  | _ => none
def rng2U : U → U → Option (List U)
  | .int a, .int b => if (-(2 ^ 62) ≤ a ∧ a < 2 ^ 62) ∧ (-(2 ^ 62) ≤ b ∧ b < 2 ^ 62) then some ((List.range (b - a).toNat).map fun i => .int (a + (i : Nat))) else none
  | _, _ => none
def itW (w : M U) : M (List U) := .bind w fun u => .o (itU u)
def rng1W (w : M U) : M (List U) := .bind w fun u => .o (rng1U u)
def rng2W (w w' : M U) : M (List U) := .bind w fun u => .bind w' fun u' => .o (rng2U u u')
section
variable {F : Fr} {δ : Dl} {te ta tb : TE} {w wa wb : M U}
theorem src_it (h : EvW F te δ w) : Src F (iSeqU F.G.K te) δ (itW w) := fun os as st γ σ H us st' S q Q k => by
  obtain ⟨u, st1, qu, q⟩ := M.bind_inv q
  obtain ⟨e, rfl⟩ := M.o_inv q
  have fin : ∀ st2 v H' as', Go as as' H H' → SDo F os as' st2 γ H' σ δ → im F.G (rts as') (ban F os as') u v H' → SDo F os as' st2 ([(u, v)] ++ γ) H' σ δ := fun st2 v H' as' g S' p => S'.ghost fun q m => by rw [List.mem_singleton] at m; rw [m]; exact p
  cases u <;> simp [itU] at e
  · subst e
    refine .inr (h os as st γ σ H _ _ S qu _ fun v H' as' g S' p => ?_)
    obtain ⟨a, vs, ev, hs, hv⟩ := id p
    refine ⟨a, ev, ⟨vs, EL.sqT_of hs⟩, k _ H' as' _ g (fin _ v H' as' g S' p) ⟨fun i os as st γ σ δ H hi S2 => ?_, fun os as st γ σ δ H S2 => ?_, fun i os as st γ σ δ x H H2 u e S2 y => ?_⟩⟩ <;> obtain ⟨a2, vs2, ev2, hs2, hv2⟩ := S2.gh _ List.mem_cons_self
    · rw [ev] at ev2; cases ev2
      exact walk_tup.goes i H (by rw [imAll_len hv2]; exact hi) (EL.sqT_of (K := F.G.K) hs2)
    · rw [ev] at ev2; cases ev2
      rw [← imAll_len hv2]
      exact walk_tup.stops H (EL.sqT_of (K := F.G.K) hs2)
    · rw [ev] at ev2; cases ev2
      obtain ⟨e1, e2⟩ := walk_tup.yields i H x H2 (by rw [imAll_len hv2]; exact getElem?_lt e) (EL.sqT_of (K := F.G.K) hs2) y
      subst e1
      refine ⟨Ex.refl _, ?_⟩
      obtain ⟨z, e3, e4⟩ := imAll_get hv2 e
      rw [e2] at e3; cases e3
      exact e4
  · subst e
    refine .inl (h os as st γ σ H _ _ S qu _ fun v H' as' g S' p => ?_)
    obtain ⟨a, vs, ev, nb, hs, hv⟩ := id p
    refine ⟨a, ev, ⟨vs, EL.sqL_of hs⟩, k _ H' as' _ g (fin _ v H' as' g S' p) ⟨fun i os as st γ σ δ H hi S2 => ?_, fun os as st γ σ δ H S2 => ?_, fun i os as st γ σ δ x H H2 u e S2 y => ?_⟩⟩ <;> obtain ⟨a2, vs2, ev2, nb2, hs2, hv2⟩ := S2.gh _ List.mem_cons_self
    · rw [ev] at ev2; cases ev2
      exact walk_list.goes i H (by rw [imAll_len hv2]; exact hi) (EL.sqL_of hs2)
    · rw [ev] at ev2; cases ev2
      rw [← imAll_len hv2]
      exact walk_list.stops H (EL.sqL_of hs2)
    · rw [ev] at ev2; cases ev2
      obtain ⟨e1, e2⟩ := walk_list.yields i H x H2 (by rw [imAll_len hv2]; exact getElem?_lt e) (EL.sqL_of hs2) y
      subst e1
      refine ⟨Ex.refl _, ?_⟩
      obtain ⟨z, e3, e4⟩ := imAll_get hv2 e
      rw [e2] at e3; cases e3
      exact e4
  · subst e
    refine .inl (h os as st γ σ H _ _ S qu _ fun v H' as' g S' p => ?_)
    obtain ⟨a, vs, ev, hs, hv⟩ := id p
    refine ⟨a, ev, ⟨vs, hs.sq⟩, k _ H' as' _ g (fin _ v H' as' g S' p) ⟨fun i os as st γ σ δ H hi S2 => ?_, fun os as st γ σ δ H S2 => ?_, fun i os as st γ σ δ x H H2 u e S2 y => ?_⟩⟩ <;> obtain ⟨a2, vs2, ev2, hs2, hv2⟩ := S2.gh _ List.mem_cons_self
    · rw [ev] at ev2; cases ev2
      exact walk_list.goes i H (by rw [imAll_len hv2]; exact hi) hs2.sq
    · rw [ev] at ev2; cases ev2
      rw [← imAll_len hv2]
      exact walk_list.stops H hs2.sq
    · rw [ev] at ev2; cases ev2
      obtain ⟨e1, e2⟩ := walk_list.yields i H x H2 (by rw [imAll_len hv2]; exact getElem?_lt e) hs2.sq y
      subst e1
      refine ⟨Ex.refl _, ?_⟩
      obtain ⟨z, e3, e4⟩ := imAll_get hv2 e
      rw [e2] at e3; cases e3
      exact e4
theorem rng_walk {lo : Int} {n : Nat} : WalkU F (Itr lo n) ((List.range n).map fun i => .int (lo + (i : Nat))) [] := by
  refine ⟨fun i os as st γ σ δ H hi S2 => walk_range.goes i H (by simpa using hi) trivial, fun os as st γ σ δ H S2 => ?_, fun i os as st γ σ δ x H H2 u e S2 y => ?_⟩
  · rw [List.length_map, List.length_range]; exact walk_range.stops H trivial
  · have hi : i < n := by have := getElem?_lt e; simpa using this
    obtain ⟨e1, e2⟩ := walk_range.yields i H x H2 hi trivial y
    subst e1 e2
    refine ⟨Ex.refl _, ?_⟩
    rw [List.getElem?_map, List.getElem?_range hi] at e
    cases e
    rfl
theorem src_range1 (h : EvR F ta δ w) : Src F (iRng1 (tCons ta tNil)) δ (rng1W w) := fun os as st γ σ H us st' S q Q k => by
  obtain ⟨u, st1, qu, q⟩ := M.bind_inv q
  obtain ⟨e, rfl⟩ := M.o_inv q
  cases u with
  | int n => ?_
  | _ => cases e
  simp only [rng1U] at e
  split at e
  case isFalse => cases e
  rename_i hc
  cases e
  refine h os as st γ σ H _ _ S qu _ fun v H' as' g S' p => ⟨n, by rw [show v = _ from p], by omega, by omega, k _ H' as' [] g S' ?_⟩
  have := rng_walk (F := F) (lo := 0) (n := n.toNat)
  simp only [Int.zero_add] at this
  exact this
end
def wipD (δ : Dl) : List Nat → Dl
  | [] => δ
  | v :: vs => (wipD δ vs).set v none
def TgOk (F : Fr) (g : TG) (vs : List Nat) (δ : Dl) (u : U) (δ' : Dl) : Prop := wipD δ' vs = wipD δ vs ∧ ∀ os as st γ H σ v, SDo F os as st γ H σ δ → im F.G (rts as) (ban F os as) u v H → ∀ Q : L2.St → Hp → Prop, (∀ σ', wipe σ' vs = wipe σ vs → SDo F os as st γ H σ' δ' → Q σ' H) → g v σ H Q
section
variable {F : Fr} {δ : Dl} {u a b c : U}
theorem wipe_set (σ : L2.St) (i : Nat) (o : Option V) : ∀ vs : List Nat, i ∈ vs → wipe (σ.set i o) vs = wipe σ vs
  | [], h => nomatch h
  | v :: vs, h => by
    show (wipe (σ.set i o) vs).set v none = (wipe σ vs).set v none
    by_cases z : i ∈ vs
    · rw [wipe_set σ i o vs z]
    · have e : i = v := by
        rcases List.mem_cons.mp h with e | e
        · exact e
        · exact absurd e z
      subst e
      have : ∀ (σ : L2.St) (vs : List Nat), i ∉ vs → wipe (σ.set i o) vs = (wipe σ vs).set i o := by
        intro σ vs
        induction vs with
        | nil => intro _; rfl
        | cons w ws ih =>
          intro n
          show (wipe (σ.set i o) ws).set w none = ((wipe σ ws).set w none).set i o
          rw [ih fun m => n (List.mem_cons_of_mem _ m), List.set_comm _ _ (fun z => n (by rw [z]; exact List.mem_cons_self))]
      rw [this σ vs z, List.set_set]
theorem wipD_set (σ : Dl) (i : Nat) (o : Option SV) : ∀ vs : List Nat, i ∈ vs → wipD (σ.set i o) vs = wipD σ vs
  | [], h => nomatch h
  | v :: vs, h => by
    show (wipD (σ.set i o) vs).set v none = (wipD σ vs).set v none
    by_cases z : i ∈ vs
    · rw [wipD_set σ i o vs z]
    · have e : i = v := by
        rcases List.mem_cons.mp h with e | e
        · exact e
        · exact absurd e z
      subst e
      have : ∀ (σ : Dl) (vs : List Nat), i ∉ vs → wipD (σ.set i o) vs = (wipD σ vs).set i o := by
        intro σ vs
        induction vs with
        | nil => intro _; rfl
        | cons w ws ih =>
          intro n
          show (wipD (σ.set i o) ws).set w none = ((wipD σ ws).set w none).set i o
          rw [ih fun m => n (List.mem_cons_of_mem _ m), List.set_comm _ _ (fun z => n (by rw [z]; exact List.mem_cons_self))]
      rw [this σ vs z, List.set_set]
theorem tg_name {i : Nat} {vs : List Nat} (h : i ∈ vs) : TgOk F (gName i) vs δ u (δ.set i (some (.im u))) := ⟨wipD_set _ _ _ _ h, fun os as st γ H σ v S p Q k => k _ (wipe_set _ _ _ _ h) (S.set p)⟩
theorem tg_two {i j : Nat} {vs : List Nat} (hi : i ∈ vs) (hj : j ∈ vs) : TgOk F (gTup F.G.K 2 (gCons (gName i) (gCons (gName j) gNil))) vs δ (.tup [a, b]) ((δ.set i (some (.im a))).set j (some (.im b))) := ⟨by rw [wipD_set _ _ _ _ hj, wipD_set _ _ _ _ hi], fun os as st γ H σ v S ⟨p, xs, e, hs, v1, r1, e1, h1, v2, r2, e2, h2, e3⟩ Q k => by
  subst e e1 e2; cases (show r2 = [] from e3)
  exact ⟨p, _, rfl, EL.sqT_of hs, rfl, v1, _, rfl, v2, _, rfl, rfl, k _ (by rw [wipe_set _ _ _ _ hj, wipe_set _ _ _ _ hi]) ((S.set (x := .im a) h1).set (x := .im b) h2)⟩⟩
theorem tg_three {i j l : Nat} {vs : List Nat} (hi : i ∈ vs) (hj : j ∈ vs) (hl : l ∈ vs) : TgOk F (gTup F.G.K 3 (gCons (gName i) (gCons (gName j) (gCons (gName l) gNil)))) vs δ (.tup [a, b, c]) (((δ.set i (some (.im a))).set j (some (.im b))).set l (some (.im c))) := ⟨by rw [wipD_set _ _ _ _ hl, wipD_set _ _ _ _ hj, wipD_set _ _ _ _ hi], fun os as st γ H σ v S ⟨p, xs, e, hs, v1, r1, e1, h1, v2, r2, e2, h2, v3, r3, e3, h3, e4⟩ Q k => by
  subst e e1 e2 e3; cases (show r3 = [] from e4)
  exact ⟨p, _, rfl, EL.sqT_of hs, rfl, v1, _, rfl, v2, _, rfl, v3, _, rfl, rfl, k _ (by rw [wipe_set _ _ _ _ hl, wipe_set _ _ _ _ hj, wipe_set _ _ _ _ hi]) (((S.set (x := .im a) h1).set (x := .im b) h2).set (x := .im c) h3)⟩⟩
end
section
variable {F : Fr} {S L : Type} {δ : Dl} {wi : TI} {g : TG} {tb : TS} {wl : M (List U)} {δl : S → Dl} {δ2 : L → Dl}
theorem blk_for {vs : List Nat} {f : U → S → M (Out S S)} {s0 : S} (hs : Src F wi δ wl) (h0 : Weak δ (δl s0))
    (hb : ∀ u s st r, f u s st = some r → ∃ δ', TgOk F g vs (δl s) u δ' ∧ Blk F tb δ' (f u s) δl δl) : Blk F (tFor wi g tb) δ (.bind wl fun us => forO f us s0) δl δ2 := fun D os as st γ σ H o st' Q q P => by
  obtain ⟨us, st1, qs, q⟩ := M.bind_inv q
  refine hs os as st γ σ H us _ Q qs _ fun J H1 as1 gh g1 S1 W => ?_
  refine ⟨fun i m σ Hc => m = us.length - i ∧ i ≤ us.length ∧ ∃ os2 as2 st2 s, SDo F os2 as2 st2 (gh ++ γ) Hc σ (δl s) ∧ forO (L := L) f (us.drop i) s st2 = some (.ok o, st'), ⟨us.length, by simp, Nat.zero_le _, os, as1, st1, s0, S1.weak h0, by rw [List.drop_zero]; exact q⟩, ?_⟩
  rintro i m σ2 Hc ⟨rfl, hi, os2, as2, st2, s, S2, q2⟩
  by_cases hlt : i < us.length
  · right
    refine ⟨W.goes i os2 as2 st2 γ σ2 _ Hc hlt S2, ?_⟩
    have ed : us.drop i = us[i] :: us.drop (i + 1) := List.drop_eq_getElem_cons hlt
    rw [ed, forO] at q2
    obtain ⟨o1, st3, q3, q2⟩ := M.bind_inv q2
    obtain ⟨δ', tg, bk⟩ := hb us[i] s st2 _ q3
    refine ⟨fun σ' H' => ∃ m', m' < us.length - i ∧ m' = us.length - (i + 1) ∧ i + 1 ≤ us.length ∧ ∃ os2 as2 st2 s, SDo F os2 as2 st2 (gh ++ γ) H' σ' (δl s) ∧ forO (L := L) f (us.drop (i + 1)) s st2 = some (.ok o, st'), fun σ' H' ⟨m', h1, h2, h3⟩ => ⟨m', h1, h2, h3⟩, fun x H' y => ?_⟩
    obtain ⟨ex, px⟩ := W.yields i os2 as2 st2 γ σ2 _ x Hc H' us[i] (List.getElem?_eq_getElem hlt) S2 y
    refine tg.2 os2 as2 st2 (gh ++ γ) H' σ2 x (S2.ex ex) px _ fun σ3 _ S3 => bk _ os2 as2 st2 (gh ++ γ) σ3 H' o1 st3 S3 q3 ?_
    cases o1 with
    | nx s' => exact fun os4 as4 σ4 H4 S4 => ⟨us.length - (i + 1), by omega, rfl, hlt, os4, as4, st3, s', S4, q2⟩
    | ct s' => exact fun os4 as4 σ4 H4 S4 => ⟨us.length - (i + 1), by omega, rfl, hlt, os4, as4, st3, s', S4, q2⟩
    | bk s' =>
      cases q2
      exact fun os4 as4 σ4 H4 S4 => P os4 as4 σ4 H4 S4.unghost
    | rt u =>
      cases q2
      exact P
  · left
    have e : i = us.length := by omega
    subst e
    rw [List.drop_length] at q2
    cases q2
    exact ⟨W.stops os2 as2 _ γ σ2 _ Hc S2, P os2 as2 σ2 Hc S2.unghost⟩
theorem blk_while {tc : TT} {c : S → M Bool} {b : S → M (Out S S)} {s0 : S} (h0 : Weak δ (δl s0)) (hc : ∀ s, EvT F tc (δl s) (c s)) (hb : ∀ s, Blk F tb (δl s) (b s) δl δl) : Blk F (tWhile tc tb) δ (whileO c b s0) δl δ2 := fun D os as st γ σ H o st' Q q P => by
  obtain ⟨n, q⟩ := whileO_inv q
  refine ⟨fun m σ Hc => ∃ os2 as2 st2 s, SDo F os2 as2 st2 γ Hc σ (δl s) ∧ whileN (L := L) c b m s st2 = some (.ok o, st'), ⟨n, os, as, st, s0, Q.weak h0, q⟩, ?_⟩
  rintro m σ2 Hc ⟨os2, as2, st2, s, S2, q2⟩
  cases m with
  | zero => cases q2
  | succ m =>
    rw [whileN] at q2
    obtain ⟨t, st3, qt, q2⟩ := M.bind_inv q2
    refine hc s os2 as2 st2 γ σ2 Hc t _ S2 qt _ fun H3 as3 g3 S3 => ?_
    cases t with
    | false => cases q2; exact P os2 as3 σ2 H3 S3
    | true =>
      simp only [if_true] at q2 ⊢
      obtain ⟨o1, st4, q3, q2⟩ := M.bind_inv q2
      refine ⟨fun σ' H' => ∃ m', m' < m + 1 ∧ ∃ os2 as2 st2 s, SDo F os2 as2 st2 γ H' σ' (δl s) ∧ whileN (L := L) c b m' s st2 = some (.ok o, st'), fun σ' H' h => h, ?_⟩
      refine hb s _ os2 as3 st3 γ σ2 H3 o1 st4 S3 q3 ?_
      cases o1 with
      | nx s' => exact fun os4 as4 σ4 H4 S4 => ⟨m, Nat.lt_succ_self m, os4, as4, st4, s', S4, q2⟩
      | ct s' => exact fun os4 as4 σ4 H4 S4 => ⟨m, Nat.lt_succ_self m, os4, as4, st4, s', S4, q2⟩
      | bk s' =>
        cases q2
        exact fun os4 as4 σ4 H4 S4 => P os4 as4 σ4 H4 S4
      | rt u =>
        cases q2
        exact P
end
section
variable {F : Fr} {S L : Type} {δ : Dl} {te : TE} {w : M U} {t2 : TS} {δn : S → Dl} {δl : L → Dl}
theorem blk_tg {g : TG} {vs : List Nat} {k : U → M (Out S L)} (h : EvW F te δ w) (h2 : ∀ u st r, k u st = some r → ∃ δ', TgOk F g vs δ u δ' ∧ Blk F t2 δ' (k u) δn δl) : Blk F (tSeq (tAsg te g) t2) δ (.bind w k) δn δl := fun D os as st γ σ H o st' Q q P => by
  obtain ⟨u, st1, qu, q⟩ := M.bind_inv q
  refine h os as st γ σ H u _ Q qu _ fun v H1 as1 g1 S1 p => ?_
  obtain ⟨δ', tg, bk⟩ := h2 u st1 _ q
  exact tg.2 os as1 st1 γ H1 σ v S1 p _ fun σ' _ S2 => bk D os as1 st1 γ σ' H1 o st' S2 q P
theorem pat2 {α : Type} {P : Dl → M α → Prop} {i j : Nat} {vs : List Nat} (hi : i ∈ vs) (hj : j ∈ vs) {k : U → U → M α} (h : ∀ a b, P ((δ.set i (some (.im a))).set j (some (.im b))) (k a b)) : ∀ u st r, un2 u k st = some r → ∃ δ', TgOk F (gTup F.G.K 2 (gCons (gName i) (gCons (gName j) gNil))) vs δ u δ' ∧ P δ' (un2 u k) := by
  intro u st r e
  cases u <;> first | (cases e; done) | skip
  rename_i us
  match us, e with
  | [a, b], e => exact ⟨_, tg_two hi hj, h a b⟩
theorem pat3 {α : Type} {P : Dl → M α → Prop} {i j l : Nat} {vs : List Nat} (hi : i ∈ vs) (hj : j ∈ vs) (hl : l ∈ vs) {k : U → U → U → M α} (h : ∀ a b c, P (((δ.set i (some (.im a))).set j (some (.im b))).set l (some (.im c))) (k a b c)) : ∀ u st r, un3 u k st = some r → ∃ δ', TgOk F (gTup F.G.K 3 (gCons (gName i) (gCons (gName j) (gCons (gName l) gNil)))) vs δ u δ' ∧ P δ' (un3 u k) := by
  intro u st r e
  cases u <;> first | (cases e; done) | skip
  rename_i us
  match us, e with
  | [a, b, c], e => exact ⟨_, tg_three hi hj hl, h a b c⟩
end
def setOs (os : Os) (i : Nat) (A : List Addr) : Os := os.map fun p => if p.1 = i then (i, A) else p
section
variable {F : Fr} {os : Os} {as : SA} {st : Sto} {γ : List (U × V)} {H H' : Hp} {σ : L2.St} {δ : Dl} {i : Nat} {A A' : List Addr} {a : Addr}
theorem setOs_mem {p : Nat × List Addr} (h : p ∈ setOs os i A') : (p = (i, A') ∧ i ∈ os.map (·.1)) ∨ (p ∈ os ∧ p.1 ≠ i) := by
  obtain ⟨q, m, e⟩ := List.mem_map.mp h
  by_cases z : q.1 = i
  · rw [if_pos z] at e; exact .inl ⟨e.symm, List.mem_map.mpr ⟨q, m, z⟩⟩
  · rw [if_neg z] at e; subst e; exact .inr ⟨m, z⟩
theorem setOs_fst : (setOs os i A').map (·.1) = os.map (·.1) := by
  unfold setOs
  rw [List.map_map]
  apply List.map_congr_left
  intro p _
  show (if p.1 = i then (i, A') else p).1 = p.1
  split
  · rename_i h; exact h.symm
  · rfl
theorem setOs_flo {b : Addr} (h : b ∈ flo (setOs os i A')) : b ∈ A' ∨ b ∈ flo os := by
  obtain ⟨B, m, hb⟩ := List.mem_flatten.mp h
  obtain ⟨p, mp, rfl⟩ := List.mem_map.mp m
  rcases setOs_mem mp with ⟨e, _⟩ | ⟨m, _⟩
  · rw [e] at hb; exact .inl hb
  · exact .inr (mem_flo (i := p.1) (A := p.2) m hb)
theorem setOs_nodup (ix : (os.map (·.1)).Nodup) (m : (i, A) ∈ os) (nd : (flo os).Nodup) (nd' : A'.Nodup) (fr : ∀ b ∈ A', b ∈ A ∨ b ∉ flo os) : (flo (setOs os i A')).Nodup := by
  induction os with
  | nil => exact List.nodup_nil
  | cons p os ih =>
    have ix' := List.nodup_cons.mp (show (p.1 :: os.map (·.1)).Nodup from ix)
    have nd2 := List.nodup_append.mp (show (p.2 ++ flo os).Nodup from nd)
    by_cases z : p.1 = i
    · have e1 : setOs (p :: os) i A' = (i, A') :: os := by
        unfold setOs
        rw [List.map_cons, if_pos z]
        congr 1
        have : ∀ q ∈ os, (if q.1 = i then (i, A') else q) = q := fun q mq => if_neg fun e => ix'.1 (by rw [z, ← e]; exact List.mem_map_of_mem mq)
        rw [List.map_congr_left this, List.map_id']
      have e2 : (i, A) = p := by
        rcases List.mem_cons.mp m with e | m
        · exact e
        · exact absurd (List.mem_map_of_mem (f := (·.1)) m) (by rw [← z]; exact ix'.1)
      rw [e1]
      show (A' ++ flo os).Nodup
      refine List.nodup_append.mpr ⟨nd', nd2.2.1, fun b mb c mc e => ?_⟩
      subst e
      rcases fr b mb with q | q
      · exact nd2.2.2 b (by rw [← e2]; exact q) b mc rfl
      · exact q (List.mem_append_right _ mc)
    · have e1 : setOs (p :: os) i A' = p :: setOs os i A' := by
        unfold setOs
        rw [List.map_cons, if_neg z]
      have m' : (i, A) ∈ os := by
        rcases List.mem_cons.mp m with e | m
        · exact absurd (by rw [← e]) z
        · exact m
      rw [e1]
      show (p.2 ++ flo (setOs os i A')).Nodup
      refine List.nodup_append.mpr ⟨nd2.1, ih ix'.2 m' nd2.2.1 fun b mb => (fr b mb).imp id fun q w => q (List.mem_append_right _ w), fun b mb c mc e => ?_⟩
      subst e
      rcases setOs_flo mc with q | q
      · rcases fr b q with w | w
        · exact nd2.2.2 b mb b (mem_flo m' w) rfl
        · exact w (List.mem_append_left _ mb)
      · exact nd2.2.2 b mb b q rfl
structure Chg (F : Fr) (os : Os) (as : SA) (H H' : Hp) (i : Nat) (A A' : List Addr) (a : Addr) : Prop where
  m : (i, A) ∈ os
  ha : a ∈ A
  kp : ∀ b o, H b = some o → b ≠ a → H' b = some o
  al : H' a ≠ none
  hA : ∀ b ∈ A', b ∈ A ∨ H b = none
  nd : A'.Nodup
  al' : ∀ b ∈ A', H' b ≠ none
  nt : ∀ xs, H a ≠ some (.tup xs)
  nf : ∀ o u, H a ≠ some (.frz o u)
theorem Chg.rb (c : Chg F os as H H' i A A' a) : RB (ban F os as) H H' := by
  have hb : ban F os as a := .inr (.inl (mem_flo c.m c.ha))
  refine ⟨fun b o n e => c.kp b o e (fun z => n (z ▸ hb)), fun b xs e => c.kp b _ e fun z => c.nt xs (z ▸ e), fun b o u e => c.kp b _ e fun z => c.nf o u (z ▸ e), fun b _ n => ?_⟩
  by_cases z : b = a
  · rw [z]; exact c.al
  · cases e : H b with
    | none => exact absurd e n
    | some o => rw [c.kp b o e z]; exact fun q => nomatch q
theorem Chg.ban (c : Chg F os as H H' i A A' a) : ∀ b, H b ≠ none → UX.ban F (setOs os i A') as b → UX.ban F os as b := fun b n h => by
  rcases h with h | h | h
  · exact .inl h
  · rcases setOs_flo h with q | q
    · rcases c.hA b q with w | w
      · exact .inr (.inl (mem_flo c.m w))
      · exact absurd w n
    · exact .inr (.inl q)
  · exact .inr (.inr h)
theorem Chg.im (c : Chg F os as H H' i A A' a) {u : U} {v : V} (h : UX.im F.G (rts as) (UX.ban F os as) u v H) : UX.im F.G (rts as) (UX.ban F (setOs os i A') as) u v H' := by
  have h1 : UX.im F.G (rts as) (fun b => UX.ban F (setOs os i A') as b ∨ UX.ban F os as b) u v H := im_sub (fun b n z => z.elim (c.ban b n) id) _ _ h
  exact im_sub (fun b _ z => .inl z) _ _ (im_st (c.rb.sub fun _ z => .inr z) _ _ h1)
theorem Chg.imAll (c : Chg F os as H H' i A A' a) : ∀ {us : List U} {vs : List V}, UX.imAll F.G (rts as) (UX.ban F os as) us vs H → UX.imAll F.G (rts as) (UX.ban F (setOs os i A') as) us vs H'
  | [], _, h => h
  | u :: us, _, ⟨v, w, e, h1, h2⟩ => ⟨v, w, e, c.im h1, c.imAll h2⟩
theorem SDo.mut (S : SDo F os as st γ H σ δ) (c : Chg F os as H H' i A A' a) {x : Option SV} (hx : ∀ s, x = some s → ∃ sh u v, s = .own sh u ∧ σ[i]? = some (some v) ∧ ownD F.G (rts as) (ban F (setOs os i A') as) sh u v H' A') : SDo F (setOs os i A') as st γ H' σ (δ.set i x) := by
  have tp : ∀ b xs, H b = some (.tup xs) → H' b = some (.tup xs) := fun b xs h => c.rb.tup _ _ h
  have na : ∀ b, b ∈ fl as → b ≠ a := fun b m z => (List.nodup_append.mp S.nd).2.2 a (mem_flo c.m c.ha) b m z.symm
  have kq : ∀ b, ban F os as b → b ≠ a → H' b = H b := fun b hb n => by
    cases e : H b with
    | none => exact absurd e (S.ok b hb)
    | some o => exact c.kp b o e n
  have nbA : ∀ b ∈ A', ¬ F.B b := fun b m z => by
    rcases c.hA b m with w | w
    · exact S.nb b (.inl (mem_flo c.m w)) z
    · exact S.ok b (.inl z) w
  refine ⟨fun p m => c.im (S.gh p m), ?_, fun b hb => ?_, ?_, by rw [setOs_fst]; exact S.ix, fun b hb => ?_, fun b z => ?_, StOk.mono (fun _ _ h => c.im h) tp (fun b m => kq b (.inr (.inr m)) (na b m)) S.sto, by rw [List.length_set]; exact S.len, fun j s e => ?_⟩
  · refine ⟨⟨fun b o n e => ?_, fun b xs e => ?_, fun b o u e => ?_, fun b _ n => ?_⟩, S.rel.pre, S.rel.new⟩
    · exact c.kp b o (S.rel.rb.keep b o n e) fun z => by rw [z, S.new a (mem_flo c.m c.ha)] at e; cases e
    · exact c.kp b _ (S.rel.rb.tup b xs e) fun z => by rw [z, S.new a (mem_flo c.m c.ha)] at e; cases e
    · exact c.kp b _ (S.rel.rb.frz b o u e) fun z => by rw [z, S.new a (mem_flo c.m c.ha)] at e; cases e
    · exact rb_alive c.rb (S.rel.alive n)
  · rcases hb with hb | hb | hb
    · exact rb_alive c.rb (S.ok b (.inl hb))
    · rcases setOs_flo hb with q | q
      · exact c.al' b q
      · exact rb_alive c.rb (S.ok b (.inr (.inl q)))
    · exact rb_alive c.rb (S.ok b (.inr (.inr hb)))
  · have nd := List.nodup_append.mp S.nd
    refine List.nodup_append.mpr ⟨setOs_nodup S.ix c.m nd.1 c.nd fun b m => (c.hA b m).imp id fun w q => S.ok b (.inr (.inl q)) w, nd.2.1, fun b mb d md e => ?_⟩
    subst e
    rcases setOs_flo mb with q | q
    · rcases c.hA b q with w | w
      · exact nd.2.2 b (mem_flo c.m w) b md rfl
      · exact S.ok b (.inr (.inr md)) w
    · exact nd.2.2 b q b md rfl
  · rcases setOs_flo hb with q | q
    · rcases c.hA b q with w | w
      · exact S.new b (mem_flo c.m w)
      · exact S.rel.fresh w
    · exact S.new b q
  · rcases z with z | z
    · rcases setOs_flo z with q | q
      · exact nbA b q
      · exact S.nb b (.inl q)
    · exact S.nb b (.inr z)
  · by_cases hj : i = j
    · subst hj
      have hl : i < δ.length := by have := getElem?_lt e; rwa [List.length_set] at this
      rw [List.getElem?_set_self hl] at e
      obtain ⟨sh, u, v, rfl, h1, h2⟩ := hx s (Option.some.inj e)
      exact ⟨v, h1, A', List.mem_map.mpr ⟨(i, A), c.m, if_pos rfl⟩, h2⟩
    · rw [List.getElem?_set_ne hj] at e
      obtain ⟨w, h1, h2⟩ := S.at_ j s e
      refine ⟨w, h1, ?_⟩
      match s, h2 with
      | .im u, h2 => exact c.im h2
      | .raw _, h2 => exact h2
      | .own sh u, ⟨B, m, h2⟩ =>
        refine ⟨B, List.mem_map.mpr ⟨(j, B), m, if_neg fun z => hj z.symm⟩, own_mono (fun _ _ h => c.im h) tp _ _ _ _ (fun b mb => kq b (.inr (.inl (mem_flo m mb))) fun z => ?_) h2⟩
        have key : ∀ (l : Os), (flo l).Nodup → (i, A) ∈ l → (j, B) ∈ l → i = j := by
          intro l
          induction l with
          | nil => intro _ m; cases m
          | cons r l ih =>
            intro nd m1 m2
            have nd' := List.nodup_append.mp (show (r.2 ++ flo l).Nodup from nd)
            rcases List.mem_cons.mp m1 with e1 | m1 <;> rcases List.mem_cons.mp m2 with e2 | m2
            · rw [← e1] at e2; exact (Prod.mk.inj e2).1.symm
            · exact absurd rfl (nd'.2.2 a (by rw [← e1]; exact c.ha) a (mem_flo m2 (z ▸ mb)))
            · exact absurd rfl (nd'.2.2 a (by rw [← e2]; exact z ▸ mb) a (mem_flo m1 c.ha))
            · exact ih nd'.2.1 m1 m2
        exact hj (key os (List.nodup_append.mp S.nd).1 c.m m)
theorem os_nodup : ∀ (l : Os), (flo l).Nodup → (i, A) ∈ l → A.Nodup := by
  intro l
  induction l with
  | nil => intro _ m; cases m
  | cons r l ih =>
    intro nd m1
    have nd' := List.nodup_append.mp (show (r.2 ++ flo l).Nodup from nd)
    rcases List.mem_cons.mp m1 with e1 | m1
    · rw [show A = r.2 by rw [← e1]]; exact nd'.1
    · exact ih nd'.2.1 m1
theorem chg_same {o o' : HO} (m : (i, A) ∈ os) (ha : a ∈ A) (S : SDo F os as st γ H σ δ) (e : H a = some o) (nt : ∀ xs, o ≠ .tup xs) (nf : ∀ x u, o ≠ .frz x u) : Chg F os as H (upd H a o') i A A a := by
  refine ⟨m, ha, fun b u eb n => ?_, ?_, fun b mb => .inl mb, os_nodup os (List.nodup_append.mp S.nd).1 m, fun b mb => ?_, fun xs z => ?_, fun x u z => ?_⟩
  · rw [upd_ne n]; exact eb
  · rw [upd_same]; exact fun z => nomatch z
  · by_cases z : b = a
    · rw [z, upd_same]; exact fun z => nomatch z
    · rw [upd_ne z]; exact S.ok b (.inr (.inl (mem_flo m mb)))
  · rw [e] at z; exact nt xs (Option.some.inj z)
  · rw [e] at z; exact nf x u (Option.some.inj z)
theorem setOs_same (ix : (os.map (·.1)).Nodup) (m : (i, A) ∈ os) : setOs os i A = os := by
  unfold setOs
  have : ∀ q ∈ os, (if q.1 = i then (i, A) else q) = q := fun q mq => by
    by_cases z : q.1 = i
    · rw [if_pos z]
      have key : ∀ (l : Os), (l.map (·.1)).Nodup → (i, A) ∈ l → q ∈ l → (i, A) = q := by
        intro l
        induction l with
        | nil => intro _ m; cases m
        | cons r l ih =>
          intro nd m1 m2
          have nd' := List.nodup_cons.mp (show (r.1 :: l.map (·.1)).Nodup from nd)
          rcases List.mem_cons.mp m1 with e1 | m1 <;> rcases List.mem_cons.mp m2 with e2 | m2
          · rw [e1, e2]
          · exact absurd (List.mem_map_of_mem (f := (·.1)) m2) (by rw [z, show i = r.1 by rw [← e1]]; exact nd'.1)
          · exact absurd (List.mem_map_of_mem (f := (·.1)) m1) (by rw [← z, e2]; exact nd'.1)
          · exact ih nd'.2 m1 m2
      exact key os ix m mq
    · rw [if_neg z]
  rw [List.map_congr_left this, List.map_id']
theorem SDo.reix {k k' : Nat} {B : List Addr} (S : SDo F ((k, B) :: os) as st γ H σ δ) (hk : δ.length ≤ k) (hk' : k' ∉ os.map (·.1)) : SDo F ((k', B) :: os) as st γ H σ δ := by
  refine ⟨S.gh, S.rel, S.ok, S.nd, List.nodup_cons.mpr ⟨hk', (List.nodup_cons.mp S.ix).2⟩, S.new, S.nb, S.sto, S.len, fun j s e => ?_⟩
  obtain ⟨w, h1, h2⟩ := S.at_ j s e
  refine ⟨w, h1, ?_⟩
  match s, h2 with
  | .im u, h2 => exact h2
  | .raw _, h2 => exact h2
  | .own sh u, ⟨C, m, h2⟩ =>
    refine ⟨C, ?_, h2⟩
    rcases List.mem_cons.mp m with z | m
    · have := getElem?_lt e
      have : j = k := (Prod.mk.inj z).1
      omega
    · exact List.mem_cons_of_mem _ m
end
def compM (wt : U → M Bool) (we : U → M U) : List U → M (List U)
  | [] => .ret []
  | x :: xs => .bind (wt x) fun b => if b = true then .bind (we x) fun u => .bind (compM wt we xs) fun r => .ret (u :: r) else compM wt we xs
def szU (us : List U) : Option U := if us.length ≤ sizeLine then some (.lst us) else none
def lcW (wl : M (List U)) (wt : U → M Bool) (we : U → M U) : M U := .bind wl fun us => .bind (compM wt we us) fun r => .o (szU r)
def noOwn (δ : Dl) (vs : List Nat) : Bool := vs.all fun (j : Nat) => match δ[j]? with
  | some (some (.own _ _)) => false
  | some (some (.raw _)) => false
  | _ => true
section
variable {F : Fr} {os : Os} {as as' : SA} {st st' : Sto} {γ : List (U × V)} {H H' : Hp} {σ : L2.St} {δ : Dl}
theorem SDo.wipe (S : SDo F os as st γ H σ δ) : ∀ vs : List Nat, SDo F os as st γ H (L2.wipe σ vs) (wipD δ vs)
  | [] => S
  | v :: vs => (SDo.wipe S vs).unset
theorem wipe_idem (σ : L2.St) (vs : List Nat) : L2.wipe (L2.wipe σ vs) vs = L2.wipe σ vs := by
  have key : ∀ (ws : List Nat), (∀ w ∈ ws, w ∈ vs) → L2.wipe (L2.wipe σ ws) vs = L2.wipe σ vs := by
    intro ws
    induction ws with
    | nil => intro _; rfl
    | cons w ws ih =>
      intro h
      show L2.wipe ((L2.wipe σ ws).set w none) vs = _
      rw [wipe_set _ _ _ _ (h w List.mem_cons_self), ih fun x m => h x (List.mem_cons_of_mem _ m)]
  exact key vs fun _ m => m
theorem wipD_idem (δ : Dl) (vs : List Nat) : wipD (wipD δ vs) vs = wipD δ vs := by
  have key : ∀ (ws : List Nat), (∀ w ∈ ws, w ∈ vs) → wipD (wipD δ ws) vs = wipD δ vs := by
    intro ws
    induction ws with
    | nil => intro _; rfl
    | cons w ws ih =>
      intro h
      show wipD ((wipD δ ws).set w none) vs = _
      rw [wipD_set _ _ _ _ (h w List.mem_cons_self), ih fun x m => h x (List.mem_cons_of_mem _ m)]
  exact key vs fun _ m => m
theorem wipD_len (δ : Dl) : ∀ vs : List Nat, (wipD δ vs).length = δ.length
  | [] => rfl
  | v :: vs => by show ((wipD δ vs).set v none).length = _; rw [List.length_set, wipD_len δ vs]
theorem wipD_ne (δ : Dl) {j : Nat} : ∀ vs : List Nat, j ∉ vs → (wipD δ vs)[j]? = δ[j]?
  | [], _ => rfl
  | v :: vs, h => by
    show ((wipD δ vs).set v none)[j]? = _
    rw [List.getElem?_set_ne (fun z => h (by rw [← z]; exact List.mem_cons_self)), wipD_ne δ vs fun m => h (List.mem_cons_of_mem _ m)]
theorem wipe_ne (σ : L2.St) {j : Nat} : ∀ vs : List Nat, j ∉ vs → (L2.wipe σ vs)[j]? = σ[j]?
  | [], _ => rfl
  | v :: vs, h => by
    show ((L2.wipe σ vs).set v none)[j]? = _
    rw [List.getElem?_set_ne (fun z => h (by rw [← z]; exact List.mem_cons_self)), wipe_ne σ vs fun m => h (List.mem_cons_of_mem _ m)]
def ghv (σ : L2.St) (δ : Dl) (vs : List Nat) : List (U × V) := vs.filterMap fun (j : Nat) => match δ[j]?, σ[j]? with
  | some (some (.im u)), some (some v) => some (u, v)
  | _, _ => none
theorem ghv_ok (S : SDo F os as st γ H σ δ) (vs : List Nat) : ∀ p ∈ ghv σ δ vs, im F.G (rts as) (ban F os as) p.1 p.2 H := fun p m => by
  obtain ⟨j, _, e⟩ := List.mem_filterMap.mp m
  split at e
  · rename_i u v e1 e2
    cases e
    obtain ⟨w, h1, h2⟩ := S.at_ j _ e1
    rw [e2] at h1; cases h1
    exact h2
  · cases e
theorem SDo.restore {g : List (U × V)} {vs : List Nat} {os0 : Os} {as0 : SA} {st0 : Sto} {γ0 : List (U × V)} {H0 : Hp} (S0 : SDo F os0 as0 st0 γ0 H0 σ δ) (no : noOwn δ vs = true) (S : SDo F os as st (ghv σ δ vs ++ γ) H (L2.wipe σ vs) (wipD δ vs)) : SDo F os as st γ H σ δ := by
  refine ⟨fun p m => S.gh p (List.mem_append_right _ m), S.rel, S.ok, S.nd, S.ix, S.new, S.nb, S.sto, S0.len, fun j s e => ?_⟩
  by_cases hj : j ∈ vs
  · have h1 := List.all_eq_true.mp no j hj
    rw [e] at h1
    match s, h1, e with
    | .im u, _, e =>
      obtain ⟨v, h2, _⟩ := S0.at_ j _ e
      refine ⟨v, h2, S.gh (u, v) (List.mem_append_left _ (List.mem_filterMap.mpr ⟨j, hj, ?_⟩))⟩
      simp only [e, h2]
  · obtain ⟨v, h1, h2⟩ := S.at_ j s (by rw [wipD_ne _ _ hj]; exact e)
    exact ⟨v, by rw [wipe_ne _ _ hj] at h1; exact h1, h2⟩
structure LS (F : Fr) (os : Os) (k0 : Nat) (D : Addr) (as : SA) (st : Sto) (γ : List (U × V)) (H : Hp) (σ : L2.St) (δ : Dl) (accU : List U) : Prop where
  S : SDo F ((k0, [D]) :: os) as st γ H σ δ
  a : ∃ acc, H D = some (.lst acc) ∧ imAll F.G (rts as) (ban F ((k0, [D]) :: os) as) accU acc H
variable {k0 : Nat} {D : Addr} {accU : List U}
theorem LS.go (l : LS F os k0 D as st γ H σ δ accU) {σ' : L2.St} {δ' : Dl} (g : Go as as' H H') (S : SDo F ((k0, [D]) :: os) as' st' γ H' σ' δ') : LS F os k0 D as' st' γ H' σ' δ' accU := by
  obtain ⟨acc, e, h⟩ := l.a
  refine ⟨S, acc, g.rb.keep _ _ (fun m => ?_) e, imAll_go g h⟩
  exact (List.nodup_append.mp l.S.nd).2.2 D (List.mem_append_left _ List.mem_cons_self) D m rfl
theorem LS.push (l : LS F os k0 D as st γ H σ δ accU) (hk : δ.length ≤ k0) {u : U} {y : V} (p : im F.G (rts as) (ban F ((k0, [D]) :: os) as) u y H) : ∃ acc, H D = some (.lst acc) ∧ acc.length = accU.length ∧ LS F os k0 D as st γ (upd H D (.lst (acc ++ [y]))) σ δ (accU ++ [u]) := by
  obtain ⟨acc, e, h⟩ := l.a
  have c : Chg F ((k0, [D]) :: os) as H (upd H D (.lst (acc ++ [y]))) k0 [D] [D] D := chg_same List.mem_cons_self List.mem_cons_self l.S e (fun _ z => nomatch z) (fun _ _ z => nomatch z)
  have S := l.S.mut c (x := none) (fun _ z => nomatch z)
  have hi := imAll_snoc (c.imAll h) (c.im p)
  rw [setOs_same l.S.ix List.mem_cons_self] at S hi
  rw [List.set_eq_of_length_le hk] at S
  exact ⟨acc, e, imAll_len h, S, _, upd_same, hi⟩
end
section
variable {F : Fr} {δ : Dl} {wi wi1 : TI} {g g1 : TG} {tt tt1 : TT} {te : TE} {vs vs1 : List Nat} {wl : M (List U)}
theorem go_new {as : SA} {H H1 : Hp} {D : Addr} {o : HO} {as0 : SA} {H0 : Hp} (g : Go as0 as H0 H) (hD : H0 D = none) : Go as0 as H0 (upd H D o) := by
  refine ⟨⟨fun b u n e => ?_, fun b xs e => ?_, fun b x u e => ?_, fun b m n => ?_⟩, g.pre, g.new⟩
  · rw [upd_ne (ne_of_none e hD)]; exact g.rb.keep b u n e
  · rw [upd_ne (ne_of_none e hD)]; exact g.rb.tup b xs e
  · rw [upd_ne (ne_of_none e hD)]; exact g.rb.frz b x u e
  · by_cases z : b = D
    · rw [z] at n; exact absurd hD n
    · rw [upd_ne z]; exact g.alive n
theorem en_lc {wt : U → M Bool} {we : U → M U} (no : noOwn δ vs = true) (hs : Src F wi δ wl)
    (hb : ∀ u st r, wt u st = some r → ∃ δ', TgOk F g vs (wipD δ vs) u δ' ∧ EvT F tt δ' (wt u) ∧ EvW F te δ' (we u)) : EvN F (.lst .leaf) (tLc wi g tt te vs) δ (lcW wl wt we) := fun os as st γ σ H c st' S q QQ k => by
  obtain ⟨us, st1, qs, q⟩ := M.bind_inv q
  obtain ⟨r, st2, qr, q⟩ := M.bind_inv q
  obtain ⟨e, rfl⟩ := M.o_inv q
  unfold szU at e
  by_cases hsz : r.length ≤ sizeLine
  case neg => rw [if_neg hsz] at e; cases e
  rw [if_pos hsz] at e
  cases e
  refine hs os as st (ghv σ δ vs ++ γ) σ H us st1 (S.ghost (ghv_ok S vs)) qs _ fun J H1 as1 gh g1 S1 W D hD => ?_
  obtain ⟨k0, hk0, hkl⟩ := nodup_fresh (os.map (·.1)) δ.length
  have S2 := S1.grow hk0 hD (Ex.new (o := .lst []) hD) (by rw [upd_same]; exact fun z => nomatch z)
  have hD0 : H D = none := g1.fresh hD
  have hkw : (wipD δ vs).length ≤ k0 := by rw [wipD_len]; exact hkl
  refine ⟨fun i m Hc => m = us.length - i ∧ i ≤ us.length ∧ ∃ as2 st2 accU rest, Go as as2 H Hc ∧ LS F os k0 D as2 st2 (gh ++ (ghv σ δ vs ++ γ)) Hc (L2.wipe σ vs) (wipD δ vs) accU ∧ compM wt we (us.drop i) st2 = some (.ok rest, st') ∧ accU ++ rest = r,
    ⟨us.length, by simp, Nat.zero_le _, as1, st1, [], r, go_new (H1 := H) g1 hD0, ⟨S2.wipe vs, [], upd_same, rfl⟩, by rw [List.drop_zero]; exact qr, rfl⟩, ?_⟩
  rintro i m Hc ⟨rfl, hi, as2, st2, accU, rest, g2, l2, q2, er⟩
  by_cases hlt : i < us.length
  · right
    refine ⟨W.goes i _ as2 st2 _ _ _ Hc hlt l2.S, fun H' => ∃ m', m' < us.length - i ∧ m' = us.length - (i + 1) ∧ i + 1 ≤ us.length ∧ ∃ as2 st2 accU rest, Go as as2 H H' ∧ LS F os k0 D as2 st2 (gh ++ (ghv σ δ vs ++ γ)) H' (L2.wipe σ vs) (wipD δ vs) accU ∧ compM wt we (us.drop (i + 1)) st2 = some (.ok rest, st') ∧ accU ++ rest = r, fun H' ⟨m', h1, h2, h3⟩ => ⟨m', h1, h2, h3⟩, fun x H' y => ?_⟩
    have ed : us.drop i = us[i] :: us.drop (i + 1) := List.drop_eq_getElem_cons hlt
    rw [ed, compM] at q2
    obtain ⟨b, st3, q3, q2⟩ := M.bind_inv q2
    obtain ⟨δ', tg, ht, he⟩ := hb us[i] st2 _ q3
    obtain ⟨ex, px⟩ := W.yields i _ as2 st2 _ _ _ x Hc H' us[i] (List.getElem?_eq_getElem hlt) l2.S y
    have gx : Go as2 as2 Hc H' := Go.of_ex ex
    have l3 := l2.go gx (l2.S.ex ex)
    refine tg.2 _ as2 st2 _ H' _ x l3.S px _ fun σ2 wq S3 => ⟨by rw [wq, wipe_idem], ?_⟩
    have back : ∀ {as4 : SA} {st4 : Sto} {H4 : Hp}, SDo F ((k0, [D]) :: os) as4 st4 (gh ++ (ghv σ δ vs ++ γ)) H4 σ2 δ' → SDo F ((k0, [D]) :: os) as4 st4 (gh ++ (ghv σ δ vs ++ γ)) H4 (L2.wipe σ vs) (wipD δ vs) := fun S4 => by
      have := S4.wipe vs
      rw [wq, wipe_idem, tg.1, wipD_idem] at this
      exact this
    refine ht _ as2 st2 _ σ2 H' b st3 S3 q3 _ fun H3 as3 g3 S4 => ?_
    cases b with
    | false => exact ⟨us.length - (i + 1), by omega, rfl, hlt, as3, st3, accU, rest, (g2.trans gx).trans g3, l3.go g3 (back S4), q2, er⟩
    | true =>
      simp only [if_true] at q2 ⊢
      obtain ⟨u, st5, q5, q2⟩ := M.bind_inv q2
      obtain ⟨r', st6, q6, q2⟩ := M.bind_inv q2
      cases q2
      refine he _ as3 st3 _ σ2 H3 u st5 S4 q5 _ fun y H5 as5 g5 S5 py => ?_
      obtain ⟨acc, e1, e2, l5⟩ := ((l3.go g3 (back S4)).go g5 (back S5)).push hkw py
      refine ⟨acc, e1, ?_, us.length - (i + 1), by omega, rfl, hlt, as5, st5, accU ++ [u], r', go_new (H1 := H) (((g2.trans gx).trans g3).trans g5) hD0, l5, q6, by rw [List.append_assoc]; exact er⟩
      rw [e2]
      rw [← er, List.length_append, List.length_cons] at hsz
      omega
  · left
    have e : i = us.length := by omega
    subst e
    rw [List.drop_length] at q2
    cases q2
    rw [List.append_nil] at er
    subst er
    refine ⟨W.stops _ as2 _ _ _ _ Hc l2.S, ?_⟩
    obtain ⟨acc, e1, h1⟩ := l2.a
    refine k _ Hc as2 [D] g2 (fun k hk => ?_) (own_lst.mpr ⟨D, acc, rfl, rfl, e1, h1⟩) fun a m => by rw [List.mem_singleton] at m; rw [m]; exact hD0
    have : SDo F ((k0, [D]) :: os) as2 _ γ Hc σ δ := SDo.restore (g := []) (vs := vs) S no l2.S.unghost
    exact this.reix hkl hk
end
def comp2M (wt : U → M Bool) (wl : U → M (List U)) (wt1 : U → U → M Bool) (we : U → U → M U) : List U → M (List U)
  | [] => .ret []
  | x :: xs => .bind (wt x) fun b => if b = true then .bind (wl x) fun ys => .bind (compM (wt1 x) (we x) ys) fun r1 => .bind (comp2M wt wl wt1 we xs) fun r => .ret (r1 ++ r) else comp2M wt wl wt1 we xs
def lc2W (w0 : M (List U)) (wt : U → M Bool) (wl : U → M (List U)) (wt1 : U → U → M Bool) (we : U → U → M U) : M U := .bind w0 fun us => .bind (comp2M wt wl wt1 we us) fun r => .o (szU r)
section
variable {F : Fr} {δ : Dl} {wi wi1 : TI} {g g1 : TG} {tt tt1 : TT} {te : TE} {vs vs1 : List Nat} {w0 : M (List U)}
end
end UX
namespace UX
open PySem PySem.Spec PyProof.Rows L2
open EL (Ex RB BOk Bn TK FnG okG)
theorem Weak.refl : ∀ δ : Dl, Weak δ δ
  | [] => trivial
  | none :: δ => Weak.refl δ
  | some x :: δ => ⟨rfl, Weak.refl δ⟩
theorem Weak.trans : ∀ {a b c : Dl}, Weak a b → Weak b c → Weak a c
  | [], [], [], _, _ => trivial
  | _ :: a, none :: b, none :: c, h, k => Weak.trans (a := a) (b := b) (c := c) h k
  | _ :: a, some _ :: b, none :: c, h, k => Weak.trans (a := a) (b := b) (c := c) h.2 k
  | _ :: a, some _ :: b, some _ :: c, h, k => ⟨h.1.trans k.1, Weak.trans (a := a) (b := b) (c := c) h.2 k.2⟩
  | _ :: a, none :: b, some _ :: c, _, k => nomatch k.1
  | [], [], _ :: _, _, k => k.elim
  | [], _ :: _, _, h, _ => h.elim
  | _ :: _, [], _, h, _ => nomatch h
  | _ :: _, none :: _, [], _, k => nomatch k
  | _ :: _, some _ :: _, [], _, k => nomatch k
theorem weak_set : ∀ (δ : Dl) (i : Nat), Weak δ (δ.set i none)
  | [], _ => trivial
  | x :: δ, 0 => Weak.refl δ
  | none :: δ, i + 1 => weak_set δ i
  | some _ :: δ, i + 1 => ⟨rfl, weak_set δ i⟩
theorem weak_wip (δ : Dl) : ∀ vs : List Nat, Weak δ (wipD δ vs)
  | [] => Weak.refl δ
  | v :: vs => (weak_wip δ vs).trans (weak_set _ v)
section
variable {F : Fr} {S S1 L : Type} {δ : Dl} {wi : TI} {g : TG} {tb t1 t2 t : TS} {wl : M (List U)} {δ2 : L → Dl} {δn : S → Dl} {δl : L → Dl} {tt : TT} {wt : M Bool}
theorem blk_fin (vs : List Nat) {s : S} (h : wipD δ vs = δn s) : Blk F tNext δ (nxO s) δn δl := blk_end (h ▸ weak_wip δ vs)
end
def spM (G : Cxt) (f : List U → M U) : Sp := fun vs H Q _ => ∃ (B : Bn) (as : SA) (st : Sto) (us : List U) (u : U) (st' : Sto),
  BOk (ban ⟨G, B, H, as, noR⟩ [] as) H ∧ (fl as).Nodup ∧ (∀ a ∈ fl as, ¬ B a) ∧ StOk G (ban ⟨G, B, H, as, noR⟩ [] as) (rts as) as st H ∧ imAll G (rts as) (ban ⟨G, B, H, as, noR⟩ [] as) us vs H ∧ f us st = some (.ok u, st') ∧
  ∀ as' v H', Rt ⟨G, B, H, as, noR⟩ as' st' H' u v → Q v H'
def stD (N : List Str) (us : List U) : Dl := us.map (fun u => some (.im u)) ++ List.replicate (N.length - us.length) none
theorem SDo.start {F : Fr} {st : Sto} {N : List Str} {us : List U} {vs : List V} (ok : BOk (ban F [] F.as0) F.H0) (nd : (fl F.as0).Nodup) (nb : ∀ a ∈ fl F.as0, ¬ F.B a) (sto : StOk F.G (ban F [] F.as0) (rts F.as0) F.as0 st F.H0) (h : imAll F.G (rts F.as0) (ban F [] F.as0) us vs F.H0) :
    SDo F [] F.as0 st [] F.H0 (start N vs) (stD N us) := by
  have hl := imAll_len h
  refine ⟨fun p m => (nomatch m), Go.refl _ _, ok, by simpa [flo] using nd, by simp, fun a m => (nomatch (show a ∈ ([] : List Addr) from m)), fun a z => z.elim (fun m => nomatch (show a ∈ ([] : List Addr) from m)) (nb a), sto, ?_, fun i s e => ?_⟩
  · unfold L2.start stD
    rw [List.length_append, List.length_append, List.length_map, List.length_map, List.length_replicate, List.length_replicate, hl]
  · unfold stD at e
    by_cases hi : i < us.length
    · rw [List.getElem?_append_left (by rw [List.length_map]; exact hi), List.getElem?_map, List.getElem?_eq_getElem hi] at e
      have e2 : SV.im us[i] = s := by simpa using e
      obtain ⟨v, h1, h2⟩ := imAll_get h (List.getElem?_eq_getElem hi)
      subst e2
      refine ⟨v, ?_, h2⟩
      unfold L2.start
      rw [List.getElem?_append_left (by rw [List.length_map, hl]; exact hi), List.getElem?_map, h1]
      rfl
    · rw [List.getElem?_append_right (by rw [List.length_map]; omega), List.getElem?_replicate] at e
      split at e <;> simp at e
def dnil (N : List Str) : Dl := List.replicate N.length none
section
variable {P : Program} {w : World} {K : PySem.W.Frag} {mg : Str → Option Value} {bs : Heap} {CX : CXT} {x qu : Str} {pa : Arguments} {bo : List Stmt} {sc : Scope} {dv : List V} {kw : List (Str × V)} {f : Addr} {fd : FuncData}
theorem fn_ok {at_ : Str → Addr} {N ps : List Str} {k : Nat} {fM : List U → M U} (Fd : FunD K x qu pa bo sc dv kw f fd) (Sc : FnScope N ps sc)
    (hlen : ∀ us st r, fM us st = some r → us.length = ps.length)
    (hb : ∀ (cv : Value) (A : Around) (o : List Env) (s : Shared) (H : Hp) (E : XK), A.guards = some [] → Room k (A.deeper (envOfC qu sc s.heap.objs.size f cv)) →
      ∃ t, PSs (cxOf CX P w K mg bs N qu sc f cv A o s H E) bo t ∧ ∀ B H0 as0 us st r, fM us st = some r → ∃ wo : M (Out Unit Unit), fM us = fnM wo ∧ Blk ⟨⟨K, at_⟩, B, H0, as0, noR⟩ t (stD N us) wo (fun _ => dnil N) (fun _ => dnil N)) :
    FnG P w K mg bs CX (k + 1) f fd ps (spM ⟨K, at_⟩ fM) := by
  refine okG Fd Sc (fun vs H Q E h => ?_) fun cv A o s H vs Q E gd rm hsp => ?_
  · obtain ⟨B, as, st, us, u, st', _, _, _, _, hi, hf, _⟩ := h
    rw [imAll_len hi]
    exact hlen us st _ hf
  · obtain ⟨B, as, st, us, u, st', ok, nd, nb, sto, hi, hf, kk⟩ := hsp
    obtain ⟨t, ht, hB⟩ := hb cv A o s H E gd rm
    refine ⟨t, ht, ?_⟩
    obtain ⟨wo, e, bl⟩ := hB B H as us st _ hf
    rw [e] at hf
    obtain ⟨o', st1, q1, q⟩ := M.bind_inv hf
    refine bl _ [] as st [] _ H o' st1 (SDo.start (F := ⟨⟨K, at_⟩, B, H, as, noR⟩) ok nd nb sto hi) q1 ?_
    cases o' with
    | rt u' => cases q; exact fun as' v H' r => kk as' v H' r
    | nx _ => cases q; exact fun os as' σ H' S => kk as' _ H' (S.rt rfl trivial)
    | bk _ => cases q
    | ct _ => cases q
end
section
variable {α : Type}
def L0 (f : M U) : List U → M U
  | [] => f
  | _ => .fail
def L1 (f : U → M U) : List U → M U
  | [a] => f a
  | _ => .fail
def L2' (f : U → U → M U) : List U → M U
  | [a, b] => f a b
  | _ => .fail
def L3 (f : U → U → U → M U) : List U → M U
  | [a, b, c] => f a b c
  | _ => .fail
def L4 (f : U → U → U → U → M U) : List U → M U
  | [a, b, c, d] => f a b c d
  | _ => .fail
def L5 (f : U → U → U → U → U → M U) : List U → M U
  | [a, b, c, d, e] => f a b c d e
  | _ => .fail
def L6 (f : U → U → U → U → U → U → M U) : List U → M U
  | [a, b, c, d, e, g] => f a b c d e g
  | _ => .fail
variable {P : List U → Prop}
theorem ar1 {f : U → M U} (h : ∀ a, P [a]) : ∀ us st r, L1 f us st = some r → P us
  | [a], _, _, _ => h a
  | [], _, _, e => nomatch e
  | _ :: _ :: _, _, _, e => nomatch e
theorem ar2 {f : U → U → M U} (h : ∀ a b, P [a, b]) : ∀ us st r, L2' f us st = some r → P us
  | [a, b], _, _, _ => h a b
  | [], _, _, e => nomatch e
  | [_], _, _, e => nomatch e
  | _ :: _ :: _ :: _, _, _, e => nomatch e
theorem ar3 {f : U → U → U → M U} (h : ∀ a b c, P [a, b, c]) : ∀ us st r, L3 f us st = some r → P us
  | [a, b, c], _, _, _ => h a b c
  | [], _, _, e => nomatch e
  | [_], _, _, e => nomatch e
  | [_, _], _, _, e => nomatch e
  | _ :: _ :: _ :: _ :: _, _, _, e => nomatch e
theorem ar4 {f : U → U → U → U → M U} (h : ∀ a b c d, P [a, b, c, d]) : ∀ us st r, L4 f us st = some r → P us
  | [a, b, c, d], _, _, _ => h a b c d
  | [], _, _, e => nomatch e
  | [_], _, _, e => nomatch e
  | [_, _], _, _, e => nomatch e
  | [_, _, _], _, _, e => nomatch e
  | _ :: _ :: _ :: _ :: _ :: _, _, _, e => nomatch e
end
section
variable {G : Cxt} {rs : List Addr} {B B' : Bn} {H : Hp}
end
def opq (st : Sto) : Sto := (List.range st.length).map fun i => U.loc i
def callM (f : List U → M U) (wa : M (List U)) : M U := .bind wa f
section
variable {F : Fr} {δ : Dl} {ta : TA} {wa : M (List U)} {E : XK} {f : List U → M U}
theorem SDo.enter {os : Os} {as : SA} {st : Sto} {γ : List (U × V)} {H : Hp} {σ : L2.St} (S : SDo F os as st γ H σ δ) : BOk (ban ⟨F.G, fun a => F.B a ∨ a ∈ flo os, H, as, noR⟩ [] as) H ∧ (∀ a ∈ fl as, ¬ (F.B a ∨ a ∈ flo os)) ∧ (∀ a, ban ⟨F.G, fun a => F.B a ∨ a ∈ flo os, H, as, noR⟩ [] as a ↔ ban F os as a) := by
  have e : ∀ a, ban ⟨F.G, fun a => F.B a ∨ a ∈ flo os, H, as, noR⟩ [] as a ↔ ban F os as a := fun a => by
    constructor
    · rintro ((h | h) | h | h)
      · exact .inl h
      · exact .inr (.inl h)
      · cases h
      · exact .inr (.inr h)
    · rintro (h | h | h)
      · exact .inl (.inl h)
      · exact .inl (.inr h)
      · exact .inr (.inr h)
  exact ⟨fun a b => S.ok a ((e a).mp b), fun a m z => z.elim (S.nb a (.inr m)) fun z => (List.nodup_append.mp S.nd).2.2 a z a m rfl, e⟩
theorem SDo.leave {os : Os} {as as' : SA} {st st' : Sto} {γ : List (U × V)} {H H' : Hp} {σ : L2.St} {u : U} {v : V} (S : SDo F os as st γ H σ δ) (r : Rt ⟨F.G, fun a => F.B a ∨ a ∈ flo os, H, as, noR⟩ as' st' H' u v) : SDo F os as' st' γ H' σ δ ∧ im F.G (rts as') (ban F os as') u v H' := by
  have e : ∀ a, ban F os as' a → ban ⟨F.G, fun a => F.B a ∨ a ∈ flo os, H, as, noR⟩ [] as' a := by
    rintro a (h | h | h)
    · exact .inl (.inl h)
    · exact .inl (.inr h)
    · exact .inr (.inr h)
  refine ⟨S.go r.rel r.nd (StOk.mono (fun _ _ h => im_sub (fun a _ b => e a b) _ _ h) (fun _ _ h => h) (fun _ _ => rfl) r.sto) fun a m => r.ok a (.inr (.inr m)), im_sub (fun a _ b => e a b) _ _ r.im⟩
theorem ev_call (h : EvAW F ta δ wa) : EvW F (tCall (spM F.G f) [] E ta) δ (callM f wa) := fun os as st γ σ H c st' S q QQ k => by
  obtain ⟨us, st1, qa, q⟩ := M.bind_inv q
  refine h os as st γ σ H us st1 S qa _ fun vs H1 as1 g1 S1 pv => ?_
  show spM F.G f (vs ++ []) H1 QQ E
  rw [List.append_nil]
  obtain ⟨ok, nb, e⟩ := S1.enter
  refine ⟨fun a => F.B a ∨ a ∈ flo os, as1, st1, us, c, st', ok, (List.nodup_append.mp S1.nd).2.1, nb, StOk.mono (fun _ _ h => im_sub (fun a _ b => (e a).mp b) _ _ h) (fun _ _ h => h) (fun _ _ => rfl) S1.sto, imAll_sub (fun a _ b => (e a).mp b) _ _ pv, q, fun as' v H' r => ?_⟩
  obtain ⟨S2, p⟩ := S1.leave r
  exact k v H' as' (g1.trans r.rel) S2 p
theorem StOk.opq {G : Cxt} {B : Bn} {H : Hp} (as : SA) (st : Sto) (h : as.length = st.length) : StOk G B (rts as) (as.map fun p => (p.1, [])) (opq st) H := by
  have key : ∀ (l : SA) (n m : Nat), l.length = m → (∀ i a, (rts l)[i]? = some a → (rts as)[n + i]? = some a) → StOk G B (rts as) (l.map fun p => (p.1, [])) ((List.range' n m).map fun i => U.loc i) H := by
    intro l
    induction l with
    | nil => intro n m e _; cases e; trivial
    | cons p l ih =>
      intro n m e hh
      cases m with
      | zero => cases e
      | succ m =>
        rw [List.range'_succ]
        refine ⟨⟨rfl, p.1, ?_, rfl⟩, ih (n + 1) m (by simpa using e) fun i a q => ?_⟩
        · have := hh 0 p.1 rfl
          simpa using this
        · have := hh (i + 1) a (by simpa [rts] using q)
          rw [show n + 1 + i = n + (i + 1) by omega]
          exact this
  have := key as 0 st.length h fun i a q => by rw [Nat.zero_add]; exact q
  rw [← List.range_eq_range'] at this
  exact this
theorem fl_opq (as : SA) : fl (as.map fun p => (p.1, ([] : List Addr))) = [] := by
  unfold fl
  rw [List.map_map]
  induction as with
  | nil => rfl
  | cons p as ih => rw [List.map_cons, List.flatten_cons, ih]; rfl
theorem rts_opq (as : SA) : rts (as.map fun p => (p.1, ([] : List Addr))) = rts as := by
  unfold rts
  rw [List.map_map]
  rfl
end
end UX
namespace UX
open PySem PySem.Spec PyProof.Rows L2
open EL (Ex RB BOk Bn TK rEqU rNeU rLtU iSeqU)
abbrev Hl := U × (U → U)
structure Hole (F : Fr) (os : Os) (as : SA) (i : Nat) (S : Sh) (σ : L2.St) (H : Hp) (s : Sh) (h : Hl) (v : V) : Prop where
  ex : ∃ A A1 A' A2 v0, (i, A) ∈ os ∧ σ[i]? = some (some v0) ∧ A = A1 ++ (A' ++ A2) ∧ ownD F.G (rts as) (ban F os as) s h.1 v H A' ∧
    ∀ rs2 B2 H2 u2 A'2, (∀ u v, im F.G (rts as) (ban F os as) u v H → im F.G rs2 B2 u v H2) → (∀ a xs, H a = some (.tup xs) → H2 a = some (.tup xs)) → (∀ a, a ∈ A1 ∨ a ∈ A2 → H2 a = H a) →
      ownD F.G rs2 B2 s u2 v H2 A'2 → ownD F.G rs2 B2 S (h.2 u2) v0 H2 (A1 ++ (A'2 ++ A2))
def EvH (F : Fr) (i : Nat) (S s : Sh) (te : TE) (δ : Dl) (w : M Hl) : Prop := ∀ os as st γ σ H h st', SDo F os as st γ H σ δ → w st = some (.ok h, st') → ∀ QQ : VK, (∀ v H' as', Go as as' H H' → SDo F os as' st' γ H' σ δ → Hole F os as' i S σ H' s h v → QQ v H') → te σ H QQ
section
variable {F : Fr} {os : Os} {as as' : SA} {st : Sto} {γ : List (U × V)} {i : Nat} {S s : Sh} {σ : L2.St} {H H' : Hp} {h : Hl} {v : V} {δ : Dl}
theorem Hole.go (hl : Hole F os as i S σ H s h v) (Q : SDo F os as st γ H σ δ) (g : Go as as' H H') : Hole F os as' i S σ H' s h v := by
  obtain ⟨A, A1, A', A2, v0, m, e0, eA, o, pl⟩ := hl.ex
  have al : ∀ a ∈ A, H a ≠ none := fun a z => Q.ok a (.inr (.inl (mem_flo m z)))
  have nf : ∀ a ∈ A, a ∉ fl as := fun a z q => (List.nodup_append.mp Q.nd).2.2 a (mem_flo m z) a q rfl
  have kp : ∀ a ∈ A, H' a = H a := fun a z => by
    cases e : H a with
    | none => exact absurd e (al a z)
    | some o => exact g.rb.keep a o (nf a z) e
  have inA : ∀ a ∈ A', a ∈ A := fun a z => by rw [eA]; exact List.mem_append_right _ (List.mem_append_left _ z)
  refine ⟨A, A1, A', A2, v0, m, e0, eA, own_go g o (fun a z => nf a (inA a z)) fun a z => al a (inA a z), fun rs2 B2 H2 u2 A'2 t1 t2 t3 o2 => ?_⟩
  exact pl rs2 B2 H2 u2 A'2 (fun u v z => t1 u v (im_go g z)) (fun a xs z => t2 a xs (sqT_go g z)) (fun a z => by rw [t3 a z, kp a (by rw [eA]; exact z.elim (fun z => List.mem_append_left _ z) fun z => List.mem_append_right _ (List.mem_append_right _ z))]) o2
theorem eh_slot {u : U} (hd : δ[i]? = some (some (.own S u))) : EvH F i S S (tVar i) δ (.ret (u, id)) := fun os as st γ σ H h st' Q q QQ k => by
  cases q
  obtain ⟨v, e, A, m, p⟩ := Q.get hd
  refine ⟨v, e, k v H as (Go.refl _ _) Q ⟨A, [], A, [], v, m, e, by simp, p, fun rs2 B2 H2 u2 A'2 _ _ _ o2 => by simpa using o2⟩⟩
def ixH (h : Hl) : U → Option Hl
  | .int n => match h.1 with
    | .lst us => match ixN us.length n with
      | some j => match us[j]? with
        | some u => some (u, fun x => h.2 (.lst (us.set j x)))
        | none => none
      | none => none
    | .tup us => match ixN us.length n with
      | some j => match us[j]? with
        | some u => some (u, fun x => h.2 (.tup (us.set j x)))
        | none => none
      | none => none
    | _ => none
  | _ => none
theorem ixN_eq {α : Type} {us : List α} {i : Int} {j : Nat} {x : α} (e : ixN us.length i = some j) (h : us[j]? = some x) : atI us i = some x := by
  unfold atI; rw [e]; exact h
end
def EvX (F : Fr) (i : Nat) (S : Sh) (te : TE) (δ : Dl) (w : M (U × U)) : Prop := ∀ os as st γ σ H a st', SDo F os as st γ H σ δ → w st = some (.ok a, st') → ∀ QQ : VK, (∀ v H' os' as', SDo F os' as' st' γ H' σ (δ.set i (some (.own S a.2))) → im F.G (rts as') (ban F os' as') a.1 v H' → QQ v H') → te σ H QQ
def MutL (F : Fr) (r : V → List V → Hp → VK → Prop) (f : List U → List U → Option (U × List U)) : Prop := ∀ os as H a vs us xs ws p, H a = some (.lst vs) → imAll F.G (rts as) (ban F os as) us vs H → imAll F.G (rts as) (ban F os as) xs ws H → f us xs = some p →
  ∃ v vs', imAll F.G (rts as) (ban F os as) p.2 vs' H ∧ im F.G (rts as) (ban F os as) p.1 v H ∧ ∀ Q : VK, Q v (upd H a (.lst vs')) → r (.ref a) ws H Q
def mutL (f : List U → List U → Option (U × List U)) (h : Hl) (xs : List U) : Option (U × U) := match h.1 with
  | .lst us => (f us xs).map fun p => (p.1, h.2 (.lst p.2))
  | _ => none
def appL : List U → List U → Option (U × List U)
  | us, [x] => if us.length < sizeLine then some (.non, us ++ [x]) else none
  | _, _ => none
def extL : List U → List U → Option (U × List U)
  | us, [.lst xs] => if us.length + xs.length ≤ sizeLine then some (.non, us ++ xs) else none
  | _, _ => none
def popAtL : List U → List U → Option (U × List U)
  | us, [.int i] => if -(2 ^ 63) ≤ i ∧ i < 2 ^ 63 then match seqIndex? i us.length with
    | some k => match us[k]? with
      | some u => some (u, us.eraseIdx k)
      | none => none
    | none => none else none
  | _, _ => none
section
variable {F : Fr} {S L : Type} {δ : Dl} {i j : Nat} {Sh0 : Sh} {te tp tv ty : TE} {ta : TA} {t2 : TS} {δn : S → Dl} {δl : L → Dl}
theorem im1 {G : Cxt} {rs : List Addr} {B : Bn} {H : Hp} {x : U} {ws : List V} (h : imAll G rs B [x] ws H) : ∃ y, ws = [y] ∧ im G rs B x y H := by
  obtain ⟨y, r, e, h1, h2⟩ := h
  cases (show r = [] from h2)
  exact ⟨y, e, h1⟩
theorem mut_app : MutL F rAppend appL := fun os as H a vs us xs ws p e h hx q => by
  rcases xs with _ | ⟨x, _ | ⟨x2, xs⟩⟩
  · cases q
  · obtain ⟨y, rfl, hy⟩ := im1 hx
    simp only [appL] at q
    split at q
    · rename_i hl
      cases q
      exact ⟨.non, vs ++ [y], imAll_snoc h hy, rfl, fun Q k => ⟨a, vs, y, rfl, rfl, e, by rw [imAll_len h]; exact hl, k⟩⟩
    · cases q
  · cases q
theorem mut_ext : MutL F rExtend extL := fun os as H a vs us xs ws p e h hx q => by
  rcases xs with _ | ⟨x, _ | ⟨x2, xs⟩⟩
  · cases q
  · obtain ⟨y, rfl, hy⟩ := im1 hx
    cases x with
    | lst xs =>
      obtain ⟨b, zs, rfl, _, hb, hz⟩ := hy
      simp only [extL] at q
      split at q
      · rename_i hl
        cases q
        exact ⟨.non, vs ++ zs, imAll_append h hz, rfl, fun Q k => ⟨a, b, vs, zs, rfl, rfl, e, hb, by rw [imAll_len h, imAll_len hz]; exact hl, k⟩⟩
      · cases q
    | _ => cases q
  · cases x <;> cases q
theorem mut_popAt : MutL F rPopAt popAtL := fun os as H a vs us xs ws p e h hx q => by
  rcases xs with _ | ⟨x, _ | ⟨x2, xs⟩⟩
  · cases q
  · obtain ⟨y, rfl, hy⟩ := im1 hx
    cases x with
    | int i =>
      cases (show y = _ from hy)
      simp only [popAtL] at q
      split at q
      · rename_i hc
        cases ek : seqIndex? i us.length with
        | none => rw [ek] at q; cases q
        | some k =>
          rw [ek] at q
          simp only at q
          cases eu : us[k]? with
          | none => rw [eu] at q; cases q
          | some u =>
            rw [eu] at q
            cases q
            obtain ⟨v, e1, e2⟩ := imAll_get h eu
            exact ⟨v, vs.eraseIdx k, imAll_erase k h, e2, fun Q kk => ⟨a, vs, i, k, v, rfl, rfl, e, hc.1, hc.2, by rw [imAll_len h]; exact ek, e1, kk⟩⟩
      · cases q
    | _ => cases q
  · cases x <;> cases q
theorem Hole.setL {os : Os} {as : SA} {st : Sto} {γ : List (U × V)} {σ : L2.St} {H : Hp} {h : Hl} {v : V} {us us' : List U} (hl : Hole F os as i Sh0 σ H (.lst .leaf) h v) (Q : SDo F os as st γ H σ δ) (eu : h.1 = .lst us) :
    ∃ a vs, v = .ref a ∧ H a = some (.lst vs) ∧ imAll F.G (rts as) (ban F os as) us vs H ∧ ∀ vs', imAll F.G (rts as) (ban F os as) us' vs' H → ∃ A, SDo F os as st γ (upd H a (.lst vs')) σ (δ.set i (some (.own Sh0 (h.2 (.lst us'))))) ∧ Chg F os as H (upd H a (.lst vs')) i A A a ∧ setOs os i A = os := by
  obtain ⟨A, A1, A', A2, v0, m, e0, eA, o, pl⟩ := hl.ex
  rw [eu] at o
  obtain ⟨a, vs, e1, e2, e3, q⟩ := own_lst.mp o
  refine ⟨a, vs, e1, e3, q, fun vs' h' => ?_⟩
  have ma : a ∈ A := by rw [eA, e2]; exact List.mem_append_right _ List.mem_cons_self
  have c : Chg F os as H (upd H a (.lst vs')) i A A a := chg_same m ma Q e3 (fun _ z => nomatch z) (fun _ _ z => nomatch z)
  have so := setOs_same Q.ix m
  refine ⟨A, ?_, c, so⟩
  have nd := os_nodup os (List.nodup_append.mp Q.nd).1 m
  rw [eA, e2] at nd
  have := Q.mut c (x := some (.own Sh0 (h.2 (.lst us')))) fun s es => by
    cases es
    refine ⟨_, _, v0, rfl, e0, ?_⟩
    rw [so]
    have := pl (rts as) (ban F os as) (upd H a (.lst vs')) (.lst us') A' (fun u v z => by have := c.im z; rw [so] at this; exact this) (fun b xs z => c.rb.tup _ _ z) (fun b z => upd_ne fun e => ?_) (own_lst.mpr ⟨a, vs', e1, e2, upd_same, by have := c.imAll h'; rw [so] at this; exact this⟩)
    · rw [eA]; exact this
    · subst e
      have nd' := List.nodup_append.mp nd
      rcases z with z | z
      · exact nd'.2.2 b z b List.mem_cons_self rfl
      · exact (List.nodup_cons.mp nd'.2.1).1 z
  rw [so] at this
  exact this
theorem ex_mut {r : V → List V → Hp → VK → Prop} {f : List U → List U → Option (U × List U)} {wh : M Hl} {wa : M (List U)} (hm : MutL F r f) (h : EvH F i Sh0 (.lst .leaf) tp δ wh) (ha : EvAW F ta δ wa) :
    EvX F i Sh0 (tBM F.G.K "list" r tp ta) δ (.bind wh fun h => .bind wa fun xs => .o (mutL f h xs)) := fun os as st γ σ H c st' Q q QQ k => by
  obtain ⟨h1, st1, q1, q⟩ := M.bind_inv q
  obtain ⟨xs, st2, q2, q⟩ := M.bind_inv q
  obtain ⟨e, rfl⟩ := M.o_inv q
  refine h os as st γ σ H h1 st1 Q q1 _ fun x H1 as1 g1 S1 p1 => ⟨?_, ha os as1 st1 γ σ H1 xs _ S1 q2 _ fun ws H2 as2 g2 S2 p2 => ?_⟩
  · obtain ⟨A, A1, A', A2, v0, m, e0, eA, o, pl⟩ := p1.ex
    unfold mutL at e
    cases eu : h1.1 <;> rw [eu] at e <;> first | (cases e; done) | skip
    rw [eu] at o
    obtain ⟨a, vs, e1, e2, e3, q⟩ := own_lst.mp o
    rw [e1]
    exact .inl ⟨rfl, vs, EL.sqL_of e3⟩
  · have p1 := p1.go S1 g2
    unfold mutL at e
    cases eu : h1.1 <;> rw [eu] at e <;> first | (cases e; done) | skip
    rename_i us
    simp only at e
    obtain ⟨p, ep, ec⟩ := Option.map_eq_some_iff.mp e
    obtain ⟨a, vs, e1, e3, hv, fin⟩ := p1.setL (us' := p.2) S2 eu
    obtain ⟨v, vs', h1', h2', h3'⟩ := hm os as2 H2 a vs us xs ws p e3 hv p2 ep
    obtain ⟨A, S3, cg, so⟩ := fin vs' h1'
    rw [e1]
    refine h3' QQ (k v _ os as2 ?_ ?_)
    · rw [← ec]; exact S3
    · rw [← ec]
      have := cg.im h2'
      rw [so] at this
      exact this
theorem blk_x {w : M (U × U)} {k : U → M (Out S L)} (h : EvX F i Sh0 te δ w) (h2 : ∀ u, Blk F t2 (δ.set i (some (.own Sh0 u))) (k u) δn δl) : Blk F (tSeq (tDrop te) t2) δ (.bind w fun p => k p.2) δn δl := fun D os as st γ σ H o st' Q q P => by
  obtain ⟨p, st1, qp, q⟩ := M.bind_inv q
  exact h os as st γ σ H p _ Q qp _ fun v H1 os1 as1 S1 _ => h2 p.2 D os1 as1 st1 γ σ H1 o st' S1 q P
end
def leafU : U → Bool
  | .lst _ => false
  | .dct _ _ => false
  | .dcT _ _ => false
  | _ => true
def leafO (u : U) : Option U := if leafU u = true then some u else none
def flatO (u : U) : Option U := match u with
  | .lst us => if us.all leafU = true then some u else none
  | _ => none
section
variable {G : Cxt} {rs : List Addr} {B : Bn} {H : Hp}
theorem leaf_ownF {u : U} {v : V} {A : List Addr} (h : leafU u = true) : ownF G rs B u v H A ↔ A = [] ∧ im G rs B u v H := by
  cases u <;> first | (cases h; done) | exact Iff.rfl
theorem flat_ownFs : ∀ {us : List U} {vs : List V} {A : List Addr}, us.all leafU = true → (ownFs G rs B us vs H A ↔ A = [] ∧ imAll G rs B us vs H)
  | [], vs, A, _ => ⟨fun h => ⟨h.2, h.1⟩, fun h => ⟨h.2, h.1⟩⟩
  | u :: us, vs, A, h => by
    have h' := Bool.and_eq_true_iff.mp (show (leafU u && us.all leafU) = true from h)
    constructor
    · rintro ⟨v, r, A1, A2, e1, e2, h1, h2⟩
      obtain ⟨z1, q1⟩ := (leaf_ownF h'.1).mp h1
      obtain ⟨z2, q2⟩ := (flat_ownFs h'.2).mp h2
      exact ⟨by rw [e2, z1, z2]; rfl, v, r, e1, q1, q2⟩
    · rintro ⟨e, v, r, e1, h1, h2⟩
      exact ⟨v, r, [], [], e1, e, (leaf_ownF h'.1).mpr ⟨rfl, h1⟩, (flat_ownFs h'.2).mpr ⟨rfl, h2⟩⟩
end
def EvNF (F : Fr) (te : TE) (δ : Dl) (w : M U) : Prop := ∀ os as st γ σ H a st', SDo F os as st γ H σ δ → w st = some (.ok a, st') → ∀ QQ : VK, (∀ v H' as' A, Go as as' H H' → (∀ k, k ∉ os.map (·.1) → SDo F ((k, A) :: os) as' st' γ H' σ δ) → ownF F.G (rts as') (ban F ((0, A) :: os) as') a v H' A → (∀ a ∈ A, H a = none) → QQ v H') → te σ H QQ
def EvANF (F : Fr) (ta : TA) (δ : Dl) (w : M (List U)) : Prop := ∀ os as st γ σ H us st', SDo F os as st γ H σ δ → w st = some (.ok us, st') → ∀ QQ : List V → Hp → Prop, (∀ vs H' as' A, Go as as' H H' → (∀ k, k ∉ os.map (·.1) → SDo F ((k, A) :: os) as' st' γ H' σ δ) → ownFs F.G (rts as') (ban F ((0, A) :: os) as') us vs H' A → (∀ a ∈ A, H a = none) → QQ vs H') → ta σ H QQ
section
variable {F : Fr} {δ : Dl} {te : TE} {ta : TA} {w : M U} {wl : M (List U)}
theorem SDo.grow0 {os : Os} {as : SA} {st : Sto} {γ : List (U × V)} {H : Hp} {σ : L2.St} {k : Nat} (S : SDo F os as st γ H σ δ) (hk : k ∉ os.map (·.1)) : SDo F ((k, []) :: os) as st γ H σ δ := by
  refine ⟨S.gh, S.rel, S.ok, S.nd, List.nodup_cons.mpr ⟨hk, S.ix⟩, S.new, S.nb, S.sto, S.len, fun i s e => ?_⟩
  obtain ⟨v, h1, h2⟩ := S.at_ i s e
  refine ⟨v, h1, ?_⟩
  match s, h2 with
  | .im u, h2 => exact h2
  | .raw _, h2 => exact h2
  | .own sh u, ⟨A, m, h2⟩ => exact ⟨A, List.mem_cons_of_mem _ m, h2⟩
theorem enf_leaf (h : EvW F te δ w) : EvNF F te δ (.bind w fun u => .o (leafO u)) := fun os as st γ σ H c st' S q QQ k => by
  obtain ⟨u, st1, qu, q⟩ := M.bind_inv q
  obtain ⟨e, rfl⟩ := M.o_inv q
  unfold leafO at e
  by_cases hl : leafU u = true
  · rw [if_pos hl] at e
    cases e
    exact h os as st γ σ H _ _ S qu _ fun v H1 as1 g1 S1 p => k v H1 as1 [] g1 (fun k hk => S1.grow0 hk) ((leaf_ownF hl).mpr ⟨rfl, p⟩) (fun a m => nomatch m)
  · rw [if_neg hl] at e; cases e
theorem enf_flat (h : EvN F (.lst .leaf) te δ w) : EvNF F te δ (.bind w fun u => .o (flatO u)) := fun os as st γ σ H c st' S q QQ k => by
  obtain ⟨u, st1, qu, q⟩ := M.bind_inv q
  obtain ⟨e, rfl⟩ := M.o_inv q
  refine h os as st γ σ H u _ S qu _ fun v H1 as1 A g1 S1 p n => ?_
  cases u with
  | lst us => ?_
  | _ => cases e
  simp only [flatO] at e
  by_cases hl : us.all leafU = true
  · rw [if_pos hl] at e
    cases e
    obtain ⟨a, vs, e1, e2, h1, q⟩ := own_lst.mp p
    exact k v H1 as1 A g1 S1 ⟨a, vs, [], e1, e2, h1, (flat_ownFs hl).mpr ⟨rfl, q⟩⟩ n
  · rw [if_neg hl] at e; cases e
theorem eanf_nil : EvANF F tNil δ nilA := fun os as st γ σ H us st' S q QQ k => by
  cases q
  exact k [] H as [] (Go.refl _ _) (fun k hk => S.grow0 hk) ⟨rfl, rfl⟩ (fun a m => nomatch m)
theorem SDo.merge {os : Os} {as : SA} {st : Sto} {γ : List (U × V)} {H : Hp} {σ : L2.St} {k1 k2 k : Nat} {A1 A2 : List Addr} (S : SDo F ((k2, A2) :: (k1, A1) :: os) as st γ H σ δ) (h1 : δ.length ≤ k1) (h2 : δ.length ≤ k2) (hk : k ∉ os.map (·.1)) : SDo F ((k, A1 ++ A2) :: os) as st γ H σ δ := by
  have bb : ∀ a, ban F ((k, A1 ++ A2) :: os) as a ↔ ban F ((k2, A2) :: (k1, A1) :: os) as a := fun a => by
    rw [ban_cons, ban_cons, ban_cons, List.mem_append]
    constructor
    · rintro ((h | h) | h)
      · exact .inr (.inl h)
      · exact .inl h
      · exact .inr (.inr h)
    · rintro (h | h | h)
      · exact .inl (.inr h)
      · exact .inl (.inl h)
      · exact .inr h
  have up : ∀ u v, im F.G (rts as) (ban F ((k2, A2) :: (k1, A1) :: os) as) u v H → im F.G (rts as) (ban F ((k, A1 ++ A2) :: os) as) u v H := fun u v h => im_sub (fun a _ b => (bb a).mp b) _ _ h
  have fm : ∀ a, a ∈ flo ((k, A1 ++ A2) :: os) → a ∈ flo ((k2, A2) :: (k1, A1) :: os) := fun a m => by
    rw [flo_cons, List.mem_append, List.mem_append] at m
    rw [flo_cons, flo_cons, List.mem_append, List.mem_append]
    rcases m with (m | m) | m
    · exact .inr (.inl m)
    · exact .inl m
    · exact .inr (.inr m)
  refine ⟨fun p m => up _ _ (S.gh p m), S.rel, fun a b => S.ok a ((bb a).mp b), ?_, List.nodup_cons.mpr ⟨hk, (List.nodup_cons.mp (List.nodup_cons.mp S.ix).2).2⟩, fun a m => S.new a (fm a m), fun a z => S.nb a (z.imp (fm a) id), StOk.mono up (fun _ _ h => h) (fun _ _ => rfl) S.sto, S.len, fun i s e => ?_⟩
  · have nd : (A2 ++ (A1 ++ flo os) ++ fl as).Nodup := S.nd
    show (A1 ++ A2 ++ flo os ++ fl as).Nodup
    have pm : (A1 ++ A2 ++ flo os ++ fl as).Perm (A2 ++ (A1 ++ flo os) ++ fl as) := by
      rw [← List.append_assoc A2]
      exact ((List.perm_append_comm (l₁ := A1) (l₂ := A2)).append_right (flo os)).append_right (fl as)
    exact pm.nodup_iff.mpr nd
  · obtain ⟨v, q1, q2⟩ := S.at_ i s e
    refine ⟨v, q1, ?_⟩
    match s, q2 with
    | .im u, q2 => exact up _ _ q2
    | .raw _, q2 => exact q2
    | .own sh u, ⟨A, m, q2⟩ =>
      refine ⟨A, List.mem_cons_of_mem _ ?_, own_mono up (fun _ _ h => h) _ _ _ _ (fun _ _ => rfl) q2⟩
      have il := getElem?_lt e
      rcases List.mem_cons.mp m with z | m
      · have : i = k2 := (Prod.mk.inj z).1
        omega
      · rcases List.mem_cons.mp m with z | m
        · have : i = k1 := (Prod.mk.inj z).1
          omega
        · exact m
theorem eanf_cons {tr : TA} {wr : M (List U)} (h : EvNF F te δ w) (hr : EvANF F tr δ wr) : EvANF F (tCons te tr) δ (consA w wr) := fun os as st γ σ H us st' S q QQ k => by
  obtain ⟨a, st1, qa, q⟩ := M.bind_inv q
  obtain ⟨r, st2, qr, q⟩ := M.bind_inv q
  cases q
  refine h os as st γ σ H a _ S qa _ fun x H1 as1 A1 g1 S1 p1 n1 => ?_
  obtain ⟨k1, hk1, hl1⟩ := nodup_fresh (os.map (·.1)) δ.length
  refine hr _ as1 st1 γ σ H1 r _ (S1 k1 hk1) qr _ fun vs H2 as2 A2 g2 S2 p2 n2 => ?_
  obtain ⟨k2, hk2, hl2⟩ := nodup_fresh (((k1, A1) :: os).map (·.1)) δ.length
  refine k (x :: vs) H2 as2 (A1 ++ A2) (g1.trans g2) (fun k hk => (S2 k2 hk2).merge hl1 hl2 hk) ⟨x, vs, A1, A2, rfl, rfl, ?_, ?_⟩ fun a m => ?_
  · have S3 := S2 k2 hk2
    have al : ∀ a ∈ A1, H1 a ≠ none := fun a m => (S1 k1 hk1).ok a (.inr (.inl (List.mem_append_left _ m)))
    refine ownF_mono (fun u v z => ?_) _ _ _ (fun a m => ?_) p1
    · have z1 : im F.G (rts as1) (ban F ((k2, A2) :: (k1, A1) :: os) as1) u v H1 := im_sub (sub_cons n2) _ _ z
      have z2 := im_go (os := (k2, A2) :: (k1, A1) :: os) g2 z1
      refine im_sub (fun a _ b => ?_) _ _ z2
      rw [ban_cons, List.mem_append] at b
      rw [ban_cons, ban_cons]
      rcases b with (h | h) | h
      · exact .inr (.inl h)
      · exact .inl h
      · exact .inr (.inr h)
    · cases e : H1 a with
      | none => exact absurd e (al a m)
      | some o => exact g2.rb.keep a o (fun q => (List.nodup_append.mp (S1 k1 hk1).nd).2.2 a (List.mem_append_left _ m) a q rfl) e
  · refine ownFs_mono (fun u v z => im_sub (fun a _ b => ?_) _ _ z) _ _ _ (fun _ _ => rfl) p2
    rw [ban_cons, List.mem_append] at b
    rw [ban_cons, ban_cons]
    rcases b with (h | h) | h
    · exact .inr (.inl h)
    · exact .inl h
    · exact .inr (.inr h)
  · rcases List.mem_append.mp m with z | z
    · exact n1 a z
    · exact g1.fresh (n2 a z)
theorem enf_lst (h : EvANF F ta δ wl) : EvNF F (tLst ta) δ (lstW wl) := fun os as st γ σ H c st' S q QQ k => by
  obtain ⟨us, st1, qa, q⟩ := M.bind_inv q
  obtain ⟨e, rfl⟩ := M.o_inv q
  by_cases hl : us.length ≤ sizeLine
  · rw [if_pos hl] at e
    cases e
    refine h os as st γ σ H us _ S qa _ fun vs H1 as1 A g1 S1 pv n => ⟨by rw [ownFs_len pv]; exact hl, fun p hp => ?_⟩
    obtain ⟨k1, hk1, hl1⟩ := nodup_fresh (os.map (·.1)) δ.length
    obtain ⟨k2, hk2, hl2⟩ := nodup_fresh (((k1, A) :: os).map (·.1)) δ.length
    have S2 := (S1 k1 hk1).grow hk2 hp (Ex.new (o := .lst vs) hp) (by rw [upd_same]; exact fun z => nomatch z)
    have npA : ∀ a ∈ A, a ≠ p := fun a m z => by
      have := (S1 k1 hk1).ok a (.inr (.inl (List.mem_append_left _ m)))
      rw [z] at this; exact this hp
    have bb : ∀ a, ban F ((0, p :: A) :: os) as1 a → ban F ((k2, [p]) :: (k1, A) :: os) as1 a := fun a b => by
      rw [ban_cons, List.mem_cons] at b
      rw [ban_cons, ban_cons, List.mem_singleton]
      rcases b with (h | h) | h
      · exact .inl h
      · exact .inr (.inl h)
      · exact .inr (.inr h)
    refine k (.ref p) _ as1 (p :: A) (g1.trans (Go.of_ex (Ex.new hp))) (fun k hk => ?_) ⟨p, vs, A, rfl, rfl, upd_same, ?_⟩ fun a m => ?_
    · have := S2.merge (k := k) hl1 hl2 hk
      have pm : ∀ a, a ∈ A ++ [p] ↔ a ∈ p :: A := fun a => by rw [List.mem_append, List.mem_singleton, List.mem_cons]; exact Or.comm
      have cm : ∀ a, ban F ((k, p :: A) :: os) as1 a → ban F ((k, A ++ [p]) :: os) as1 a := fun a b => by
        rw [ban_cons] at b ⊢
        exact b.imp (pm a).mpr id
      have up : ∀ u v, im F.G (rts as1) (ban F ((k, A ++ [p]) :: os) as1) u v (upd H1 p (.lst vs)) → im F.G (rts as1) (ban F ((k, p :: A) :: os) as1) u v (upd H1 p (.lst vs)) := fun u v h => im_sub (fun a _ b => cm a b) _ _ h
      refine ⟨fun q m => up _ _ (this.gh q m), this.rel, fun a b => this.ok a (cm a b), ?_, this.ix, fun a m => this.new a ?_, fun a z => this.nb a (z.imp (fun m => ?_) id), StOk.mono up (fun _ _ h => h) (fun _ _ => rfl) this.sto, this.len, fun i s e => ?_⟩
      · have nd := this.nd
        have pp : ((p :: A) ++ flo os ++ fl as1).Perm ((A ++ [p]) ++ flo os ++ fl as1) := ((List.perm_append_comm (l₁ := [p]) (l₂ := A)).append_right (flo os)).append_right (fl as1)
        exact pp.nodup_iff.mpr nd
      · rw [flo_cons, List.mem_append] at m ⊢
        exact m.imp (pm a).mpr id
      · rw [flo_cons, List.mem_append] at m ⊢
        exact m.imp (pm a).mpr id
      · obtain ⟨v, q1, q2⟩ := this.at_ i s e
        refine ⟨v, q1, ?_⟩
        match s, q2 with
        | .im u, q2 => exact up _ _ q2
        | .raw _, q2 => exact q2
        | .own sh u, ⟨C, m, q2⟩ =>
          rcases List.mem_cons.mp m with z | m
          · have il := getElem?_lt e
            have m1 := S2.at_ i _ e
            obtain ⟨v', _, C', m', q'⟩ := m1
            rcases List.mem_cons.mp m' with z' | m'
            · have : i = k2 := (Prod.mk.inj z').1
              omega
            · rcases List.mem_cons.mp m' with z' | m'
              · have : i = k1 := (Prod.mk.inj z').1
                omega
              · exact absurd (List.mem_map_of_mem (f := (·.1)) m') (by rw [show (i, C').1 = k from (Prod.mk.inj z).1]; exact hk)
          · exact ⟨C, List.mem_cons_of_mem _ m, own_mono up (fun _ _ h => h) _ _ _ _ (fun _ _ => rfl) q2⟩
    · refine ownFs_mono (fun u v z => ?_) _ _ _ (fun a m => upd_ne (npA a m)) pv
      have z1 : im F.G (rts as1) (ban F ((k2, [p]) :: (k1, A) :: os) as1) u v H1 := im_sub (sub_cons fun a m => by rw [List.mem_singleton] at m; rw [m]; exact hp) _ _ z
      exact im_sub (fun a _ b => bb a b) _ _ (im_st (RB.of_ex (Ex.new hp)) _ _ z1)
    · rcases List.mem_cons.mp m with z | z
      · rw [z]; exact g1.fresh hp
      · exact n a z
  · rw [if_neg hl] at e; cases e
def allocM (u : U) : M U := fun st => some (.ok (.loc st.length), st ++ [u])
theorem StOk.snoc {G : Cxt} {B : Bn} {rs : List Addr} {H : Hp} {p : Addr × List Addr} {u : U} (h : ownC G rs B u (.ref p.1) H p.2) : ∀ {as : SA} {st : Sto}, StOk G B rs as st H → StOk G B rs (as ++ [p]) (st ++ [u]) H
  | [], [], _ => ⟨h, trivial⟩
  | _ :: _, _ :: _, ⟨h1, h2⟩ => ⟨h1, StOk.snoc h h2⟩
theorem ownC_of {G : Cxt} {rs : List Addr} {B : Bn} {H : Hp} {u : U} {v : V} {A : List Addr} (hu : ∀ c ns us, u ≠ .obj c ns us) (h : ownF G rs B u v H A) : ownC G rs B u v H A := by
  cases u <;> first | exact h | exact absurd rfl (hu _ _ _)
def lstO (u : U) : Option U := match u with
  | .lst _ => some u
  | _ => none
theorem blk_retC {S L : Type} {δn : S → Dl} {δl : L → Dl} (h : EvNF F te δ w) (hR : F.R = noR := by rfl) : Blk F (tRet te) δ (rtO (.bind w fun u => .bind (.o (lstO u)) allocM) : M (Out S L)) δn δl := fun D os as st γ σ H o st' Q q P => by
  obtain ⟨l, st1, ql, q⟩ := M.bind_inv q
  obtain ⟨u, st2, qu, ql2⟩ := M.bind_inv ql
  obtain ⟨u', st3, qx, ql3⟩ := M.bind_inv ql2
  obtain ⟨eu, rfl⟩ := M.o_inv qx
  clear ql ql2
  cases ql3; cases q
  refine h os as st γ σ H u _ Q qu _ fun v H1 as1 A g1 S1 p n => ?_
  cases u with
  | lst us => ?_
  | _ => cases eu
  cases eu
  obtain ⟨a, vs, A', e1, e2, e3, q⟩ := id p
  obtain ⟨k1, hk1, hl1⟩ := nodup_fresh (os.map (·.1)) δ.length
  have S2 := S1 k1 hk1
  have fle : fl (as1 ++ [(a, A)]) = fl as1 ++ A := by simp [fl]
  have rle : rts (as1 ++ [(a, A)]) = rts as1 ++ [a] := by simp [rts]
  have bb : ∀ b, ban F [] (as1 ++ [(a, A)]) b → ban F ((k1, A) :: os) as1 b := fun b z => by
    rw [ban_cons]
    rcases z with z | z | z
    · exact .inr (.inl z)
    · cases z
    · rw [fle, List.mem_append] at z
      exact z.elim (fun z => .inr (.inr (.inr z))) .inl
  have rsx : ∀ (i : Nat) (b : Addr), (rts as1)[i]? = some b → (rts (as1 ++ [(a, A)]))[i]? = some b := fun i b e => by
    rw [rle, List.getElem?_append_left (getElem?_lt e)]; exact e
  have up : ∀ u v, im F.G (rts as1) (ban F ((k1, A) :: os) as1) u v H1 → im F.G (rts (as1 ++ [(a, A)])) (ban F [] (as1 ++ [(a, A)])) u v H1 := fun u v h => im_sub (fun b _ z => bb b z) _ _ (im_rs rsx _ _ h)
  have nd : (A ++ (flo os ++ fl as1)).Nodup := by rw [← List.append_assoc]; exact S2.nd
  refine P (as1 ++ [(a, A)]) v H1 ⟨⟨S2.rel.rb, fun i b e => rsx i b (S2.rel.pre i b e), fun b m => ?_⟩, fun b z => S2.ok b (bb b z), ?_, fun b m => ?_, ?_, ?_, by rw [hR]; trivial⟩
  · rw [fle, List.mem_append] at m
    rcases m with m | m
    · exact S2.rel.new b m
    · exact .inr (S2.new b (List.mem_append_left _ m))
  · rw [fle]
    have nd' := List.nodup_append.mp nd
    exact List.nodup_append.mpr ⟨(List.nodup_append.mp nd'.2.1).2.1, nd'.1, fun b m c m' e => by subst e; exact nd'.2.2 b m' b (List.mem_append_right _ m) rfl⟩
  · rw [fle, List.mem_append] at m
    exact m.elim (fun m => S2.nb b (.inr m)) fun m => S2.nb b (.inl (List.mem_append_left _ m))
  · refine StOk.snoc (ownC_of (fun c ns us z => by cases z) ?_) (StOk.mono up (fun _ _ h => h) (fun _ _ => rfl) S2.sto)
    rw [← e1]
    exact ownF_mono up _ _ _ (fun _ _ => rfl) p
  · refine ⟨a, ?_, e1⟩
    rw [rle]
    have le : (rts as1).length = st3.length := (by unfold rts; rw [List.length_map]; exact S2.sto.len)
    rw [← le, List.getElem?_append_right (Nat.le_refl _), Nat.sub_self]
    rfl
end
def ownR (G : Cxt) (rs : List Addr) (B : Bn) : Bool → U → V → Hp → List Addr → Prop
  | true => ownC G rs B
  | false => ownF G rs B
structure HoleC (F : Fr) (os : Os) (as : SA) (H : Hp) (r : Bool) (i : Nat) (h : Hl) (v : V) : Prop where
  ex : ∃ a A A1 A' A2, as[i]? = some (a, A) ∧ A = A1 ++ (A' ++ A2) ∧ ownR F.G (rts as) (ban F os as) r h.1 v H A' ∧
    ∀ rs2 B2 H2 u2 A'2, (∀ u v, im F.G (rts as) (ban F os as) u v H → im F.G rs2 B2 u v H2) → (∀ a, a ∈ A1 ∨ a ∈ A2 → H2 a = H a) →
      ownR F.G rs2 B2 r u2 v H2 A'2 → ownC F.G rs2 B2 (h.2 u2) (.ref a) H2 (A1 ++ (A'2 ++ A2))
abbrev Cl := Nat × Hl
def EvC (F : Fr) (r : Bool) (te : TE) (δ : Dl) (w : M Cl) : Prop := ∀ os as st γ σ H c st', SDo F os as st γ H σ δ → w st = some (.ok c, st') → ∀ QQ : VK, (∀ v H' as', Go as as' H H' → SDo F os as' st' γ H' σ δ → HoleC F os as' H' r c.1 c.2 v → QQ v H') → te σ H QQ
def EvQ (F : Fr) (te : TE) (δ : Dl) (w : M U) : Prop := ∀ os as st γ σ H a st', SDo F os as st γ H σ δ → w st = some (.ok a, st') → st' = st ∧ ∀ QQ : VK, (∀ v, im F.G (rts as) (ban F os as) a v H → QQ v H) → te σ H QQ
def locM (u : U) : M Cl := fun st => match u with
  | .loc i => match st[i]? with
    | some x => some (.ok (i, (x, id)), st)
    | none => none
  | _ => none
section
variable {F : Fr} {os : Os} {as : SA} {st : Sto} {γ : List (U × V)} {H : Hp} {σ : L2.St} {δ : Dl}
theorem StOk.get {G : Cxt} {B : Bn} {rs : List Addr} : ∀ {as : SA} {st : Sto} {i : Nat} {p : Addr × List Addr} {u : U}, StOk G B rs as st H → as[i]? = some p → st[i]? = some u → ownC G rs B u (.ref p.1) H p.2
  | p :: as, s :: st, 0, _, _, ⟨h1, _⟩, e1, e2 => by simp at e1 e2; subst e1 e2; exact h1
  | p :: as, s :: st, i + 1, _, _, ⟨_, h2⟩, e1, e2 => StOk.get (i := i) h2 (by simpa using e1) (by simpa using e2)
  | [], [], _, _, _, _, e, _ => by simp at e
theorem ec_loc {te : TE} {w : M U} (h : EvW F te δ w) : EvC F true te δ (.bind w locM) := fun os as st γ σ H c st' S q QQ k => by
  obtain ⟨u, st1, qu, q⟩ := M.bind_inv q
  refine h os as st γ σ H u _ S qu _ fun v H1 as1 g1 S1 p => ?_
  cases u with
  | loc i => ?_
  | _ => cases q
  obtain ⟨a, ea, ev⟩ := p
  cases es : st1[i]? with
  | none => simp only [locM, es] at q; cases q
  | some x =>
    simp only [locM, es] at q
    cases q
    obtain ⟨⟨a', A⟩, e1, e2⟩ : ∃ p, as1[i]? = some p ∧ p.1 = a := by
      unfold rts at ea
      rw [List.getElem?_map] at ea
      obtain ⟨p, h1, h2⟩ := Option.map_eq_some_iff.mp ea
      exact ⟨p, h1, h2⟩
    simp only at e2
    subst e2
    have := S1.sto.get e1 es
    rw [← ev] at this
    exact k v H1 as1 g1 S1 ⟨a', A, [], A, [], e1, by simp, this, fun rs2 B2 H2 u2 A'2 _ _ o2 => by rw [← ev]; have o2 : ownC F.G rs2 B2 u2 v H2 A'2 := o2; simpa using o2⟩
theorem eq_int {i : Int} : EvQ F (tC (.int i)) δ (.ret (.int i)) := fun os as st γ σ H a st' S q => by
  cases q; exact ⟨rfl, fun QQ k => k _ rfl⟩
def ixC (c : Cl) (n : U) : Option Cl := match c.2.1 with
  | .lst _ => (ixH c.2 n).map fun h => (c.1, h)
  | _ => none
theorem ec_ix {r : Bool} {te ti : TE} {w : M Cl} {wi : M U} (h : EvC F r te δ w) (hi : EvQ F ti δ wi) : EvC F false (tOp (rIx F.G.K) te ti) δ (.bind w fun c => .bind wi fun n => .o (ixC c n)) := fun os as st γ σ H c st' S q QQ k => by
  obtain ⟨c1, st1, q1, q⟩ := M.bind_inv q
  obtain ⟨n, st2, q2, q⟩ := M.bind_inv q
  obtain ⟨e, rfl⟩ := M.o_inv q
  refine h os as st γ σ H c1 st1 S q1 _ fun x H1 as1 g1 S1 p1 => ?_
  obtain ⟨rfl, hq⟩ := hi os as1 st1 γ σ H1 n _ S1 q2
  refine hq _ fun y py => ?_
  obtain ⟨a, A, A1, A', A2, e0, eA, o, pl⟩ := p1.ex
  obtain ⟨i, u1, f1⟩ := c1
  cases u1 with
  | lst us =>
    cases n with
    | int n => ?_
    | _ => cases e
    have o : ownF F.G (rts as1) (ban F os as1) (.lst us) x H1 A' := by cases r <;> exact o
    obtain ⟨b, vs, B, e1, e2, e3, z⟩ := o
    simp only [ixC, ixH] at e
    cases ej : ixN us.length n with
    | none => rw [ej] at e; cases e
    | some j =>
      rw [ej] at e
      simp only at e
      cases eu : us[j]? with
      | none => rw [eu] at e; cases e
      | some u =>
        rw [eu] at e
        simp only [Option.map_some] at e
        cases e
        obtain ⟨v, B1, B', B2, f1', f2, f3, f4⟩ := ownFs_split z eu
        refine .inl ⟨b, vs, n, v, e1, py, .inl (.inl e3), ixN_eq (by rw [ownFs_len z]; exact ej) f1', ?_⟩
        refine k v H1 as1 g1 S1 ⟨a, A, A1 ++ b :: B1, B', B2 ++ A2, e0, by rw [eA, e2, f2]; simp, f3, fun rs2 B2' H3 u2 A'2 t1 t3 o2 => ?_⟩
        have := pl rs2 B2' H3 (.lst (us.set j u2)) (b :: (B1 ++ (A'2 ++ B2))) t1 (fun b z => t3 b (z.imp (fun z => List.mem_append_left _ z) fun z => List.mem_append_right _ z)) (by
          have : ownF F.G rs2 B2' (.lst (us.set j u2)) x H3 (b :: (B1 ++ (A'2 ++ B2))) := ⟨b, vs, B1 ++ (A'2 ++ B2), e1, rfl, by rw [t3 b (.inl (List.mem_append_right _ List.mem_cons_self))]; exact e3, f4 rs2 B2' H3 u2 A'2 t1 (fun b z => t3 b (z.imp (fun z => List.mem_append_right _ (List.mem_cons_of_mem _ z)) fun z => List.mem_append_left _ z)) o2⟩
          cases r <;> exact this)
        simpa using this
  | _ => cases e
def valC (c : Cl) : Option U := leafO c.2.1
theorem ev_cell {r : Bool} {te : TE} {w : M Cl} (h : EvC F false te δ w) : EvW F te δ (.bind w fun c => .o (valC c)) := fun os as st γ σ H c st' S q QQ k => by
  obtain ⟨c1, st1, q1, q⟩ := M.bind_inv q
  obtain ⟨e, rfl⟩ := M.o_inv q
  refine h os as st γ σ H c1 _ S q1 _ fun x H1 as1 g1 S1 p1 => ?_
  obtain ⟨a, A, A1, A', A2, e0, eA, o, pl⟩ := p1.ex
  unfold valC leafO at e
  by_cases hl : leafU c1.2.1 = true
  · rw [if_pos hl] at e
    cases e
    exact k x H1 as1 g1 S1 ((leaf_ownF hl).mp o).2
  · rw [if_neg hl] at e; cases e
def putC (i : Nat) (u : U) : M Unit := fun st => if i < st.length then some (.ok (), st.set i u) else none
theorem StOk.upd {G : Cxt} {B : Bn} {rs : List Addr} {H H' : Hp} {a : Addr} (hk : ∀ u v, im G rs B u v H → im G rs B u v H') (ht : ∀ a xs, H a = some (.tup xs) → H' a = some (.tup xs)) : ∀ {as : SA} {st : Sto} {i : Nat} {p : Addr × List Addr} {u : U}, (fl as).Nodup → StOk G B rs as st H → as[i]? = some p → a ∈ p.2 → (∀ b, b ≠ a → H' b = H b) → ownC G rs B u (.ref p.1) H' p.2 → StOk G B rs as (st.set i u) H'
  | q :: as, s :: st, 0, p, u, nd, ⟨h1, h2⟩, e, ma, kp, o => by
    simp at e; subst e
    have nd' := List.nodup_append.mp (show (q.2 ++ fl as).Nodup from nd)
    exact ⟨o, StOk.mono hk ht (fun b m => kp b fun z => nd'.2.2 a ma b m z.symm) h2⟩
  | q :: as, s :: st, i + 1, p, u, nd, ⟨h1, h2⟩, e, ma, kp, o => by
    have nd' := List.nodup_append.mp (show (q.2 ++ fl as).Nodup from nd)
    have e' : as[i]? = some p := by simpa using e
    exact ⟨ownC_mono hk _ _ _ (fun b m => kp b fun z => nd'.2.2 b m a (mem_fl (List.mem_of_getElem? e') ma) z) h1, StOk.upd hk ht nd'.2.1 h2 e' ma kp o⟩
  | [], [], _, _, _, _, _, e, _, _, _ => by simp at e
theorem SDo.cell (S : SDo F os as st γ H σ δ) {i : Nat} {a b : Addr} {A : List Addr} {vs vs' : List V} {u : U} (e0 : as[i]? = some (a, A)) (mb : b ∈ A) (e : H b = some (.lst vs)) (o : ownC F.G (rts as) (ban F os as) u (.ref a) (upd H b (.lst vs')) A) :
    SDo F os as (st.set i u) γ (upd H b (.lst vs')) σ δ ∧ Go as as H (upd H b (.lst vs')) ∧ ∀ u v, im F.G (rts as) (ban F os as) u v H → im F.G (rts as) (ban F os as) u v (upd H b (.lst vs')) := by
  have mf : b ∈ fl as := mem_fl (List.mem_of_getElem? e0) mb
  have rb : RB (· ∈ fl as) H (upd H b (.lst vs')) := by
    refine ⟨fun c o n h => by rw [upd_ne (fun (z : c = b) => n (by rw [z]; exact mf))]; exact h, fun c xs h => by rw [upd_ne (ne_of h e (by intro z; cases z))]; exact h, fun c o x h => by rw [upd_ne (ne_of h e (by intro z; cases z))]; exact h, fun c _ n => ?_⟩
    by_cases z : c = b
    · rw [z, upd_same]; exact fun q => nomatch q
    · rw [upd_ne z]; exact n
  have g : Go as as H (upd H b (.lst vs')) := ⟨rb, fun _ _ h => h, fun _ h => .inl h⟩
  have hk : ∀ u v, im F.G (rts as) (ban F os as) u v H → im F.G (rts as) (ban F os as) u v (upd H b (.lst vs')) := fun u v h => im_go g h
  have nd := (List.nodup_append.mp S.nd).2.1
  refine ⟨S.go g nd (StOk.upd hk (fun c xs h => rb.tup c xs h) nd S.sto e0 mb (fun c n => upd_ne n) o) fun c m => g.alive (S.ok c (.inr (.inr m))), g, hk⟩
def setItC (c : Cl) (n x : U) : Option Cl := match c.2.1, n with
  | .lst us, .int n => if leafU x = true then match ixN us.length n with
    | some j => match us[j]? with
      | some o => if leafU o = true then some (c.1, (c.2.2 (.lst (us.set j x)), id)) else none
      | none => none
    | none => none else none
  | _, _ => none
theorem StOk.lt {G : Cxt} {B : Bn} {rs : List Addr} {i : Nat} {p : Addr × List Addr} (h : StOk G B rs as st H) (e : as[i]? = some p) : i < st.length := by
  have := getElem?_lt e
  rw [h.len] at this
  exact this
theorem ownFs_set {G : Cxt} {rs rs2 : List Addr} {B B2 : Bn} {H H2 : Hp} {x w : U} {xv : V} (hx : leafU x = true) (hw : leafU w = true) (px : im G rs2 B2 x xv H2) (t : ∀ u v, im G rs B u v H → im G rs2 B2 u v H2) : ∀ {us : List U} {vs : List V} {A : List Addr} {j : Nat}, us[j]? = some w → (∀ c ∈ A, H2 c = H c) → ownFs G rs B us vs H A → ownFs G rs2 B2 (us.set j x) (vs.set j xv) H2 A
  | [], _, _, _, e, _, _ => by simp at e
  | u :: us, _, A, 0, e, k, ⟨v, r, A1, A2, e1, e2, h1, h2⟩ => by
    simp at e; subst e e1
    obtain ⟨z, _⟩ := (leaf_ownF hw).mp h1
    subst z
    exact ⟨xv, r, [], A2, rfl, e2, (leaf_ownF hx).mpr ⟨rfl, px⟩, ownFs_mono t us r A2 (fun c m => k c (by rw [e2]; exact m)) h2⟩
  | u :: us, _, A, j + 1, e, k, ⟨v, r, A1, A2, e1, e2, h1, h2⟩ => by
    subst e1
    exact ⟨v, r.set j xv, A1, A2, rfl, e2, ownF_mono t u v A1 (fun c m => k c (by rw [e2]; exact List.mem_append_left _ m)) h1, ownFs_set hx hw px t (j := j) (by simpa using e) (fun c m => k c (by rw [e2]; exact List.mem_append_right _ m)) h2⟩
theorem imAll_map {G : Cxt} {rs rs2 : List Addr} {B B2 : Bn} {H H2 : Hp} (t : ∀ u v, im G rs B u v H → im G rs2 B2 u v H2) : ∀ {us : List U} {vs : List V}, imAll G rs B us vs H → imAll G rs2 B2 us vs H2
  | [], _, h => h
  | u :: us, _, ⟨v, w, e, h1, h2⟩ => ⟨v, w, e, t _ _ h1, imAll_map t h2⟩
theorem sa_nodup {a : Addr} {A : List Addr} : ∀ (l : SA) (i : Nat), (fl l).Nodup → l[i]? = some (a, A) → A.Nodup := by
  intro l
  induction l with
  | nil => intro i _ e; simp at e
  | cons p l ih =>
    intro i nd e
    have nd' := List.nodup_append.mp (show (p.2 ++ fl l).Nodup from nd)
    cases i with
    | zero => simp at e; rw [show A = p.2 by rw [e]]; exact nd'.1
    | succ i => exact ih i nd'.2.1 (by simpa using e)
theorem HoleC.setL {r : Bool} {i : Nat} {us us' : List U} {f : U → U} {cv : V} (p : HoleC F os as H r i (.lst us, f) cv) (S : SDo F os as st γ H σ δ) :
    ∃ b vs B, cv = .ref b ∧ H b = some (.lst vs) ∧ ownFs F.G (rts as) (ban F os as) us vs H B ∧ b ∉ B ∧ i < st.length ∧ ∀ vs', (∀ H2, (∀ u v, im F.G (rts as) (ban F os as) u v H → im F.G (rts as) (ban F os as) u v H2) → (∀ c ∈ B, H2 c = H c) → ownFs F.G (rts as) (ban F os as) us' vs' H2 B) → SDo F os as (st.set i (f (.lst us'))) γ (upd H b (.lst vs')) σ δ := by
  obtain ⟨a, A, A1, A', A2, e0, eA, ow, pl⟩ := p.ex
  have ow : ownF F.G (rts as) (ban F os as) (.lst us) cv H A' := by cases r <;> exact ow
  obtain ⟨b, vs, B, e1, e2, e3, z⟩ := ow
  have mb : b ∈ A := by rw [eA, e2]; exact List.mem_append_right _ List.mem_cons_self
  have nd := sa_nodup as i (List.nodup_append.mp S.nd).2.1 e0
  rw [eA, e2] at nd
  have nd1 := List.nodup_append.mp nd
  have nd2 := List.nodup_cons.mp nd1.2.1
  have nB : b ∉ B := fun m => nd2.1 (List.mem_append_left _ m)
  refine ⟨b, vs, B, e1, e3, z, nB, S.sto.lt e0, fun vs' hv => ?_⟩
  have mf : b ∈ fl as := mem_fl (List.mem_of_getElem? e0) mb
  have rb : RB (· ∈ fl as) H (L2.upd H b (.lst vs')) := by
    refine ⟨fun c o n h => by rw [upd_ne (fun (z : c = b) => n (by rw [z]; exact mf))]; exact h, fun c xs h => by rw [upd_ne (ne_of h e3 (by intro z; cases z))]; exact h, fun c o x h => by rw [upd_ne (ne_of h e3 (by intro z; cases z))]; exact h, fun c _ n => ?_⟩
    by_cases z : c = b
    · rw [z, upd_same]; exact fun q => nomatch q
    · rw [upd_ne z]; exact n
  have g : Go as as H (L2.upd H b (.lst vs')) := ⟨rb, fun _ _ h => h, fun _ h => .inl h⟩
  refine (S.cell e0 mb e3 (vs' := vs') ?_).1
  have := pl (rts as) (ban F os as) (L2.upd H b (.lst vs')) (.lst us') A' (fun u v h => im_go g h) (fun c z => upd_ne fun e => ?_) (by
    have : ownF F.G (rts as) (ban F os as) (.lst us') cv (L2.upd H b (.lst vs')) A' := ⟨b, vs', B, e1, e2, upd_same, hv _ (fun u v h => im_go g h) fun c m => upd_ne fun e => nB (by rw [← e]; exact m)⟩
    cases r <;> exact this)
  · rw [eA]; exact this
  · subst e
    rcases z with z | z
    · exact nd1.2.2 c z c List.mem_cons_self rfl
    · exact nd2.1 (List.mem_append_right _ z)
theorem blk_setC {S L : Type} {δn : S → Dl} {δl : L → Dl} {r : Bool} {te to ti : TE} {t2 : TS} {we wi : M U} {wc : M Cl} {k : M (Out S L)} (he : EvW F te δ we) (hc : EvC F r to δ wc) (hi : EvQ F ti δ wi) (h2 : Blk F t2 δ k δn δl) :
    Blk F (tSeq (tAsg te (gSub to ti rSetL)) t2) δ (.bind we fun x => .bind wc fun c => .bind wi fun n => .bind (.o (setItC c n x)) fun d => .bind (putC d.1 d.2.1) fun _ => k) δn δl := fun D os as st γ σ H o st' Q q P => by
  obtain ⟨x, st1, q1, q⟩ := M.bind_inv q
  obtain ⟨c, st2, q2, q⟩ := M.bind_inv q
  obtain ⟨n, st3, q3, q⟩ := M.bind_inv q
  obtain ⟨d, st4, q4, q⟩ := M.bind_inv q
  obtain ⟨_, st5, q5, q⟩ := M.bind_inv q
  obtain ⟨ed, rfl⟩ := M.o_inv q4
  refine he os as st γ σ H x st1 Q q1 _ fun xv H1 as1 g1 S1 px => hc os as1 st1 γ σ H1 c st2 S1 q2 _ fun cv H2 as2 g2 S2 p2 => ?_
  obtain ⟨rfl, hq⟩ := hi os as2 st2 γ σ H2 n _ S2 q3
  refine hq _ fun y py => ?_
  have px := im_go g2 px
  obtain ⟨i, u1, f1⟩ := c
  cases u1 with
  | lst us =>
    cases n with
    | int n => ?_
    | _ => cases ed
    simp only [setItC] at ed
    by_cases hl : leafU x = true
    · rw [if_pos hl] at ed
      cases ej : ixN us.length n with
      | none => rw [ej] at ed; cases ed
      | some j =>
        rw [ej] at ed
        simp only at ed
        cases eo : us[j]? with
        | none => rw [eo] at ed; cases ed
        | some w =>
          rw [eo] at ed
          simp only at ed
          by_cases hw : leafU w = true
          · rw [if_pos hw] at ed
            cases ed
            obtain ⟨b, vs, B, e1, e3, z, nB, lt, fin⟩ := p2.setL (us' := us.set j x) S2
            unfold putC at q5
            simp only [lt, if_true] at q5
            cases q5
            refine ⟨b, vs, n, j, e1, py, e3, by rw [ownFs_len z]; exact ej, h2 D os as2 _ γ σ _ o st' (fin _ fun H3 t kp => ownFs_set hl hw (t _ _ px) t eo kp z) q P⟩
          · rw [if_neg hw] at ed; cases ed
    · rw [if_neg hl] at ed; cases ed
  | _ => cases ed
def mutC (f : List U → List U → Option (U × List U)) (c : Cl) (xs : List U) : Option (U × Cl) := match c.2.1 with
  | .lst us => if us.all leafU = true ∧ xs.all leafU = true then match f us xs with
    | some p => if p.2.all leafU = true then some (p.1, (c.1, (c.2.2 (.lst p.2), id))) else none
    | none => none else none
  | _ => none
theorem blk_mutC {S L : Type} {δn : S → Dl} {δl : L → Dl} {r : Bool} {to ti : TE} {t2 : TS} {wi : M U} {wc : M Cl} {k : M (Out S L)} {rr : V → List V → Hp → VK → Prop} {f : List U → List U → Option (U × List U)} (hm : MutL F rr f) (hc : EvC F r to δ wc) (hi : EvQ F ti δ wi) (h2 : Blk F t2 δ k δn δl) :
    Blk F (tSeq (tDrop (tBM F.G.K "list" rr to (tCons ti tNil))) t2) δ (.bind wc fun c => .bind wi fun n => .bind (.o (mutC f c [n])) fun d => .bind (putC d.2.1 d.2.2.1) fun _ => k) δn δl := fun D os as st γ σ H o st' Q q P => by
  obtain ⟨c, st2, q2, q⟩ := M.bind_inv q
  obtain ⟨n, st3, q3, q⟩ := M.bind_inv q
  obtain ⟨d, st4, q4, q⟩ := M.bind_inv q
  obtain ⟨_, st5, q5, q⟩ := M.bind_inv q
  obtain ⟨ed, rfl⟩ := M.o_inv q4
  refine hc os as st γ σ H c st2 Q q2 _ fun cv H2 as2 g2 S2 p2 => ?_
  obtain ⟨rfl, hq⟩ := hi os as2 st2 γ σ H2 n _ S2 q3
  obtain ⟨i, u1, f1⟩ := c
  cases u1 with
  | lst us =>
    simp only [mutC] at ed
    by_cases hl : us.all leafU = true ∧ [n].all leafU = true
    · rw [if_pos hl] at ed
      cases ef : f us [n] with
      | none => rw [ef] at ed; cases ed
      | some p =>
        rw [ef] at ed
        simp only at ed
        by_cases hp : p.2.all leafU = true
        · rw [if_pos hp] at ed
          cases ed
          obtain ⟨b, vs, B, e1, e3, z, nB, lt, fin⟩ := p2.setL (us' := p.2) S2
          unfold putC at q5
          simp only [lt, if_true] at q5
          cases q5
          obtain ⟨zB, hv⟩ := (flat_ownFs hl.1).mp z
          subst e1 zB
          refine ⟨.inl ⟨rfl, vs, EL.sqL_of e3⟩, hq _ fun y py => ?_⟩
          obtain ⟨v, vs', h1, h2', h3⟩ := hm os as2 H2 b vs us [n] [y] p e3 hv ⟨y, [], rfl, py, rfl⟩ ef
          exact h3 _ (h2 D os as2 _ γ σ _ o st' (fin vs' fun H3 t kp => (flat_ownFs hp).mpr ⟨rfl, imAll_map t h1⟩) q P)
        · rw [if_neg hp] at ed; cases ed
    · rw [if_neg hl] at ed; cases ed
  | _ => cases ed
mutual
theorem ownF_im0 : ∀ (u : U) (v : V) (A : List Addr), ownF F.G (rts as) (ban F os as) u v H A → im F.G (rts as) noB u v H
  | .lst us, v, A, ⟨a, vs, A', e1, e2, h, q⟩ => ⟨a, vs, e1, fun z => z, h, ownFs_im0 us vs A' q⟩
  | .dct ks us, v, A, ⟨a, vs, A', e1, e2, h, l, q⟩ => ⟨a, vs, e1, fun z => z, .inl h, l, ownFs_im0 us vs A' q⟩
  | .dcT ks us, v, A, ⟨a, vs, A', e1, e2, h, l, q⟩ => ⟨a, vs, e1, fun z => z, .inl h, l, ownFs_im0 us vs A' q⟩
  | .non, v, A, h => sub0 h.2
  | .bl _, v, A, h => sub0 h.2
  | .int _, v, A, h => sub0 h.2
  | .str _, v, A, h => sub0 h.2
  | .tup _, v, A, h => sub0 h.2
  | .obj _ _ _, v, A, h => sub0 h.2
  | .dcN _ _, v, A, h => sub0 h.2
  | .top _, v, A, h => sub0 h.2
  | .frl _, v, A, h => sub0 h.2
  | .loc _, v, A, h => sub0 h.2
  | .exc _, v, A, h => sub0 h.2
  | .exo _ _ _, v, A, h => sub0 h.2
theorem ownFs_im0 : ∀ (us : List U) (vs : List V) (A : List Addr), ownFs F.G (rts as) (ban F os as) us vs H A → imAll F.G (rts as) noB us vs H
  | [], _, _, h => h.1
  | u :: us, _, A, ⟨v, r, A1, A2, e1, e2, h1, h2⟩ => ⟨v, r, e1, ownF_im0 u v A1 h1, ownFs_im0 us r A2 h2⟩
end
theorem ownR_im0 {r : Bool} {u : U} {v : V} {A : List Addr} (h : ownR F.G (rts as) (ban F os as) r u v H A) : im F.G (rts as) noB u v H := by
  cases r with
  | false => exact ownF_im0 u v A h
  | true =>
    cases u with
    | obj c ns us => obtain ⟨a, dx, vs, A', e1, e2, h, l, q⟩ := h; exact ⟨a, dx, vs, e1, fun z => z, h, l, ownFs_im0 us vs A' q⟩
    | _ => exact ownF_im0 _ v A h
theorem neU_l (a : U) (b : List U) : neU a (.lst b) = neD a (.lst b) := by cases a <;> rfl
theorem ev_neC {r : Bool} {te : TE} {w : M Cl} (h : EvC F r te δ w) : EvW F (tOp (rNeU F.G.K) te (tLst tNil)) δ (.bind w fun c => .o (neU c.2.1 (.lst []))) := fun os as st γ σ H c st' S q QQ k => by
  obtain ⟨c1, st1, q1, q⟩ := M.bind_inv q
  obtain ⟨e, rfl⟩ := M.o_inv q
  refine h os as st γ σ H c1 _ S q1 _ fun x H1 as1 g1 S1 p1 => ⟨Nat.zero_le _, fun p hp => ?_⟩
  obtain ⟨a, A, A1, A', A2, e0, eA, o, pl⟩ := p1.ex
  have px := im_st (RB.of_ex (B := noB) (Ex.new (o := .lst []) hp)) _ _ (ownR_im0 o)
  rw [neU_l] at e
  unfold neD at e
  cases e1 : pd c1.2.1 with
  | none => rw [e1] at e; cases e
  | some d =>
    rw [e1] at e
    have e2 : pd (.lst []) = some (.list []) := rfl
    rw [e2] at e
    simp only at e
    split at e
    · rename_i hs
      cases e
      exact .inl ⟨d, .list [], im_dp _ _ _ px e1, .lst (EL.sqL_of upd_same) .nil, hs.1, hs.2, k _ _ as1 (g1.trans (Go.of_ex (Ex.new hp))) (S1.ex (Ex.new hp)) rfl⟩
    · cases e
end
end UX
namespace UX
open PySem PySem.Spec PyProof.Rows L2
open EL (Ex RB BOk Bn TK FnG okG)
section
variable {P : Program} {w : World} {K : PySem.W.Frag} {mg : Str → Option Value} {bs : Heap} {CX : CXT} {x qu : Str} {pa : Arguments} {bo : List Stmt} {sc : Scope} {dv : List V} {kw : List (Str × V)} {f : Addr} {fd : FuncData}
theorem fn_okF {at_ : Str → Addr} {N ps : List Str} {k : Nat} {fM : List U → M U} (Fd : FunD K x qu pa bo sc dv kw f fd) (Sc : FnScope N ps sc)
    (hlen : ∀ us st r, fM us st = some r → us.length = ps.length)
    (hb : ∀ (cv : Value) (A : Around) (o : List Env) (s : Shared) (H : Hp) (E : XK), Room k (A.deeper (envOfC qu sc s.heap.objs.size f cv)) →
      ∃ t, PSs (cxOf CX P w K mg bs N qu sc f cv A o s H E) bo t ∧ ∀ B H0 as0 us st r, fM us st = some r → ∃ wo : M (Out Unit Unit), fM us = fnM wo ∧ Blk ⟨⟨K, at_⟩, B, H0, as0, noR⟩ t (stD N us) wo (fun _ => dnil N) (fun _ => dnil N)) :
    FnOk P w K mg bs CX (k + 1) f fd ps (spM ⟨K, at_⟩ fM) := by
  refine Fd.ok Sc (fun vs H Q E h => ?_) fun cv A o s H vs Q E rm hsp => ?_
  · obtain ⟨B, as, st, us, u, st', _, _, _, _, hi, hf, _⟩ := h
    rw [imAll_len hi]
    exact hlen us st _ hf
  · obtain ⟨B, as, st, us, u, st', ok, nd, nb, sto, hi, hf, kk⟩ := hsp
    obtain ⟨t, ht, hB⟩ := hb cv A o s H E rm
    refine ⟨t, ht, ?_⟩
    obtain ⟨wo, e, bl⟩ := hB B H as us st _ hf
    rw [e] at hf
    obtain ⟨o', st1, q1, q⟩ := M.bind_inv hf
    refine bl _ [] as st [] _ H o' st1 (SDo.start (F := ⟨⟨K, at_⟩, B, H, as, noR⟩) ok nd nb sto hi) q1 ?_
    cases o' with
    | rt u' => cases q; exact fun as' v H' r => kk as' v H' r
    | nx _ => cases q; exact fun os as' σ H' S => kk as' _ H' (S.rt rfl trivial)
    | bk _ => cases q
    | ct _ => cases q
end
def lookF (f : Str) : List Str → List U → Option U
  | n :: ns, u :: us => if n = f then some u else lookF f ns us
  | _, _ => none
def fldU (cs : List Str) (f : Str) : U → Option U
  | .obj c ns us => if c ∈ cs then lookF f ns us else none
  | _ => none
theorem look_zip {G : Cxt} {rs : List Addr} {B : Bn} {H : Hp} {f : Str} : ∀ {ns : List Str} {us : List U} {vs : List V} {u : U}, imAll G rs B us vs H → lookF f ns us = some u → ∃ v, (ns.zip vs).lookup f = some v ∧ im G rs B u v H
  | n :: ns, u :: us, _, u', ⟨v, r, e, h1, h2⟩, el => by
    subst e
    unfold lookF at el
    by_cases z : n = f
    · rw [if_pos z] at el
      cases el
      refine ⟨v, ?_, h1⟩
      rw [List.zip_cons_cons, List.lookup_cons, z]
      simp
    · rw [if_neg z] at el
      obtain ⟨v', e1, e2⟩ := look_zip h2 el
      refine ⟨v', ?_, e2⟩
      rw [List.zip_cons_cons, List.lookup_cons]
      have : (f == n) = false := by simpa using fun q => z q.symm
      rw [this]
      exact e1
  | [], _, _, _, _, el => by cases el
  | _ :: _, [], _, _, _, el => by cases el
section
variable {F : Fr} {δ : Dl} {te ta : TE} {w : M U}
theorem ev_fld {cs : List Str} {f : Str} (hc : ∀ c ∈ cs, Cls F.G.K (F.G.at_ c) ∧ NoAttr F.G.K (F.G.at_ c) f) (h : EvR F ta δ w) : EvW F (tFld F.G.K ta f) δ (op1 (fldU cs f) w) := fun os as st γ σ H c st' S q QQ k => by
  obtain ⟨u, st1, qu, q⟩ := M.bind_inv q
  obtain ⟨e, rfl⟩ := M.o_inv q
  refine h os as st γ σ H u _ S qu _ fun v H1 as1 g1 S1 p => ?_
  cases u with
  | obj c0 ns us => ?_
  | _ => cases e
  simp only [fldU] at e
  by_cases hm : c0 ∈ cs
  · rw [if_pos hm] at e
    obtain ⟨a, dx, vs, e1, _, e3, l, hv⟩ := p
    obtain ⟨x, e4, e5⟩ := look_zip hv e
    exact ⟨a, F.G.at_ c0, dx, _, x, e1, e3, (hc c0 hm).1, (hc c0 hm).2, e4, k x H1 as1 g1 S1 e5⟩
  · rw [if_neg hm] at e; cases e
def isObj (c m : Str) : U → Option U
  | .obj c' ns us => if c' = c ∧ lookF m ns us = none ∧ ns.length = us.length then some (.obj c' ns us) else none
  | _ => none
def methM (c m : Str) (f : List U → M U) (wo : M U) (wa : M (List U)) : M U := .bind wo fun o => .bind (.o (isObj c m o)) fun _ => .bind wa fun us => f (o :: us)
end
mutual
def nlU : U → Bool
  | .tup us => nlA us
  | .lst us => nlA us
  | .dct _ us => nlA us
  | .dcT _ us => nlA us
  | .dcN ks us => nlA ks && nlA us
  | .obj _ _ us => nlA us
  | .frl us => nlA us
  | .loc _ => false
  | .exc _ => false
  | .exo _ _ _ => false
  | _ => true
def nlA : List U → Bool
  | [] => true
  | u :: us => nlU u && nlA us
end
section
variable {G : Cxt} {rs rs' : List Addr} {B : Bn} {H : Hp}
mutual
theorem im_nl : ∀ (u : U) (v : V), nlU u = true → im G rs B u v H → im G rs' B u v H
  | .non, _, _, h => h
  | .bl _, _, _, h => h
  | .int _, _, _, h => h
  | .str _, _, _, h => h
  | .tup us, _, p, ⟨a, vs, e, t, q⟩ => ⟨a, vs, e, t, imAll_nl us vs p q⟩
  | .lst us, _, p, ⟨a, vs, e, n, t, q⟩ => ⟨a, vs, e, n, t, imAll_nl us vs p q⟩
  | .dct ks us, _, p, ⟨a, vs, e, n, t, l, q⟩ => ⟨a, vs, e, n, t, l, imAll_nl us vs p q⟩
  | .dcT ks us, _, p, ⟨a, vs, e, n, t, l, q⟩ => ⟨a, vs, e, n, t, l, imAll_nl us vs p q⟩
  | .dcN ks us, _, p, ⟨a, vs, e, n, t, l, q1, q⟩ => ⟨a, vs, e, n, t, l, imAll_nl ks _ (Bool.and_eq_true_iff.mp p).1 q1, imAll_nl us _ (Bool.and_eq_true_iff.mp p).2 q⟩
  | .obj c ns us, _, p, ⟨a, dx, vs, e, n, t, l, q⟩ => ⟨a, dx, vs, e, n, t, l, imAll_nl us vs p q⟩
  | .top _, _, _, h => h
  | .frl us, _, p, ⟨a, vs, e, t, q⟩ => ⟨a, vs, e, t, imAll_nl us vs p q⟩
  | .loc _, _, p, _ => nomatch p
  | .exc _, _, p, _ => nomatch p
  | .exo _ _ _, _, p, _ => nomatch p
theorem imAll_nl : ∀ (us : List U) (vs : List V), nlA us = true → imAll G rs B us vs H → imAll G rs' B us vs H
  | [], _, _, h => h
  | u :: us, _, p, ⟨v, w, e, h1, h2⟩ => ⟨v, w, e, im_nl u v (Bool.and_eq_true_iff.mp p).1 h1, imAll_nl us w (Bool.and_eq_true_iff.mp p).2 h2⟩
end
mutual
/-- what is wholly owned, given away -/
theorem ownF_im : ∀ (u : U) (v : V) (A : List Addr), (∀ a ∈ A, ¬ B a) → ownF G rs B u v H A → im G rs B u v H
  | .lst us, v, A, n, ⟨a, vs, A', e1, e2, h, q⟩ => ⟨a, vs, e1, n a (by rw [e2]; exact List.mem_cons_self), h, ownFs_im us vs A' (fun b m => n b (by rw [e2]; exact List.mem_cons_of_mem _ m)) q⟩
  | .dct ks us, v, A, n, ⟨a, vs, A', e1, e2, h, l, q⟩ => ⟨a, vs, e1, n a (by rw [e2]; exact List.mem_cons_self), .inl h, l, ownFs_im us vs A' (fun b m => n b (by rw [e2]; exact List.mem_cons_of_mem _ m)) q⟩
  | .dcT ks us, v, A, n, ⟨a, vs, A', e1, e2, h, l, q⟩ => ⟨a, vs, e1, n a (by rw [e2]; exact List.mem_cons_self), .inl h, l, ownFs_im us vs A' (fun b m => n b (by rw [e2]; exact List.mem_cons_of_mem _ m)) q⟩
  | .non, v, A, _, h => h.2
  | .bl _, v, A, _, h => h.2
  | .int _, v, A, _, h => h.2
  | .str _, v, A, _, h => h.2
  | .tup _, v, A, _, h => h.2
  | .obj _ _ _, v, A, _, h => h.2
  | .dcN _ _, v, A, _, h => h.2
  | .top _, v, A, _, h => h.2
  | .frl _, v, A, _, h => h.2
  | .loc _, v, A, _, h => h.2
  | .exc _, v, A, _, h => h.2
  | .exo _ _ _, v, A, _, h => h.2
theorem ownFs_im : ∀ (us : List U) (vs : List V) (A : List Addr), (∀ a ∈ A, ¬ B a) → ownFs G rs B us vs H A → imAll G rs B us vs H
  | [], _, _, _, h => h.1
  | u :: us, _, A, n, ⟨v, r, A1, A2, e1, e2, h1, h2⟩ => ⟨v, r, e1, ownF_im u v A1 (fun b m => n b (by rw [e2]; exact List.mem_append_left _ m)) h1, ownFs_im us r A2 (fun b m => n b (by rw [e2]; exact List.mem_append_right _ m)) h2⟩
end
theorem ownC_im {u : U} {v : V} {A : List Addr} (n : ∀ a ∈ A, ¬ B a) (h : ownC G rs B u v H A) : im G rs B u v H := by
  cases u with
  | obj c ns us => obtain ⟨a, dx, vs, A', e1, e2, h, l, q⟩ := h; exact ⟨a, dx, vs, e1, n a (by rw [e2]; exact List.mem_cons_self), h, l, ownFs_im us vs A' (fun b m => n b (by rw [e2]; exact List.mem_cons_of_mem _ m)) q⟩
  | _ => exact ownF_im _ v A n h
end
section
variable {F : Fr} {δ : Dl} {ta : TA} {wa : M (List U)} {E : XK} {f : List U → M U} {c : Str}
end
def idxF (f : Str) : List Str → Option Nat
  | [] => none
  | n :: ns => if n = f then some 0 else (idxF f ns).map (· + 1)
theorem idx_none {f : Str} : ∀ {ns : List Str} {vs : List V}, idxF f ns = none → ns.length = vs.length → ∀ y, putF f y (ns.zip vs) = (ns ++ [f]).zip (vs ++ [y])
  | [], vs, _, l, y => by
    have : vs = [] := List.eq_nil_of_length_eq_zero l.symm
    subst this; rfl
  | n :: ns, [], _, l, _ => by cases l
  | n :: ns, v :: vs, e, l, y => by
    unfold idxF at e
    by_cases z : n = f
    · rw [if_pos z] at e; cases e
    · rw [if_neg z] at e
      have e' : idxF f ns = none := by
        cases q : idxF f ns with
        | none => rfl
        | some j => rw [q] at e; cases e
      show putF f y ((n, v) :: ns.zip vs) = _
      rw [putF, if_neg z, idx_none e' (by simpa using l) y]
      rfl
section
variable {F : Fr} {os : Os} {as : SA} {st : Sto} {γ : List (U × V)} {H : Hp} {σ : L2.St} {δ : Dl}
theorem fl_set {i : Nat} {x : Addr} {A0 A A1 : List Addr} (hp : A1.Perm (A0 ++ A)) : ∀ {as : SA}, as[i]? = some (x, A0) → (fl (as.set i (x, A1))).Perm (A ++ fl as) := by
  induction i with
  | zero =>
    intro as e
    cases as with
    | nil => simp at e
    | cons p as =>
      simp at e; subst e
      show (A1 ++ fl as).Perm (A ++ (A0 ++ fl as))
      rw [← List.append_assoc]
      exact (hp.trans List.perm_append_comm).append_right _
  | succ i ih =>
    intro as e
    cases as with
    | nil => simp at e
    | cons p as =>
      have := ih (as := as) (by simpa using e)
      show (p.2 ++ fl (as.set i (x, A1))).Perm (A ++ (p.2 ++ fl as))
      refine (List.Perm.append_left p.2 this).trans ?_
      rw [← List.append_assoc, ← List.append_assoc]
      exact (List.perm_append_comm).append_right _
theorem rts_set {i : Nat} {x : Addr} {A0 A : List Addr} {as : SA} (e : as[i]? = some (x, A0)) : rts (as.set i (x, A)) = rts as := by
  unfold rts
  rw [List.map_set]
  apply List.ext_getElem?
  intro j
  by_cases z : i = j
  · subst z
    have hl := getElem?_lt e
    rw [List.getElem?_set_self (by rw [List.length_map]; exact hl), List.getElem?_map, e]; rfl
  · rw [List.getElem?_set_ne z]
theorem StOk.put {G : Cxt} {B : Bn} {rs : List Addr} {H H' : Hp} (hk : ∀ u v, im G rs B u v H → im G rs B u v H') : ∀ {as : SA} {st : Sto} {i : Nat} {p p' : Addr × List Addr} {u : U}, StOk G B rs as st H → as[i]? = some p → (∀ (j : Nat) (q : Addr × List Addr), as[j]? = some q → j ≠ i → ∀ b ∈ q.2, H' b = H b) → ownC G rs B u (.ref p'.1) H' p'.2 → StOk G B rs (as.set i p') (st.set i u) H'
  | q :: as, s :: st, 0, p, p', u, ⟨h1, h2⟩, e, kp, o => ⟨o, by
      have : ∀ {as : SA} {st : Sto} (n : Nat), (∀ (j : Nat) (q : Addr × List Addr), as[j]? = some q → ∀ b ∈ q.2, H' b = H b) → StOk G B rs as st H → StOk G B rs as st H' := by
        intro as
        induction as with
        | nil => intro st n _ h; cases st <;> exact h
        | cons q as ih =>
          intro st n kp h
          cases st with
          | nil => exact h
          | cons s st => exact ⟨ownC_mono hk _ _ _ (fun b m => kp 0 q rfl b m) h.1, ih n (fun j q e b m => kp (j + 1) q (by simpa using e) b m) h.2⟩
      exact this 0 (fun j q e b m => kp (j + 1) q (by simpa using e) (by omega) b m) h2⟩
  | q :: as, s :: st, i + 1, p, p', u, ⟨h1, h2⟩, e, kp, o => ⟨ownC_mono hk _ _ _ (fun b m => kp 0 q rfl (by omega) b m) h1, StOk.put hk (i := i) h2 (by simpa using e) (fun j q e' ne b m => kp (j + 1) q (by simpa using e') (by omega) b m) o⟩
  | [], [], _, _, _, _, _, e, _, _ => by simp at e
theorem sa_disj {b : Addr} : ∀ {as : SA} {i j : Nat} {p q : Addr × List Addr}, (fl as).Nodup → as[i]? = some p → as[j]? = some q → b ∈ p.2 → b ∈ q.2 → i = j
  | [], _, _, _, _, _, e, _, _, _ => by simp at e
  | r :: as, 0, 0, _, _, _, _, _, _, _ => rfl
  | r :: as, 0, j + 1, p, q, nd, e1, e2, m1, m2 => by
    have nd' := List.nodup_append.mp (show (r.2 ++ fl as).Nodup from nd)
    simp at e1; subst e1
    exact absurd rfl (nd'.2.2 b m1 b (mem_fl (List.mem_of_getElem? (show as[j]? = some q by simpa using e2)) m2))
  | r :: as, i + 1, 0, p, q, nd, e1, e2, m1, m2 => by
    have nd' := List.nodup_append.mp (show (r.2 ++ fl as).Nodup from nd)
    simp at e2; subst e2
    exact absurd rfl (nd'.2.2 b m2 b (mem_fl (List.mem_of_getElem? (show as[i]? = some p by simpa using e1)) m1))
  | r :: as, i + 1, j + 1, p, q, nd, e1, e2, m1, m2 => by
    have nd' := List.nodup_append.mp (show (r.2 ++ fl as).Nodup from nd)
    rw [sa_disj nd'.2.1 (show as[i]? = some p by simpa using e1) (show as[j]? = some q by simpa using e2) m1 m2]
theorem SDo.give {k i : Nat} {A A0 A1 : List Addr} {x b : Addr} {o : HO} {u : U} {H' : Hp} (S : SDo F ((k, A) :: os) as st γ H σ δ) (hp : A1.Perm (A0 ++ A)) (hk : δ.length ≤ k) (e0 : as[i]? = some (x, A0)) (mb : b ∈ A0) (eb : H b = some o) (nt : ∀ xs, o ≠ .tup xs) (nf : ∀ y z, o ≠ .frz y z)
    (kp : ∀ c y, H c = some y → c ≠ b → c ∉ A → H' c = some y) (al : ∀ c, H c ≠ none → H' c ≠ none) (ntA : ∀ c ∈ A, ∀ xs, H c ≠ some (.tup xs)) (nfA : ∀ c ∈ A, ∀ y z, H c ≠ some (.frz y z)) (ow : (∀ v w, im F.G (rts as) (ban F ((k, A) :: os) as) v w H → im F.G (rts as) (ban F os (as.set i (x, A1))) v w H') → ownC F.G (rts as) (ban F os (as.set i (x, A1))) u (.ref x) H' A1) :
    SDo F os (as.set i (x, A1)) (st.set i u) γ H' σ δ := by
  have pm := fl_set hp e0
  have mfl : ∀ c, c ∈ fl (as.set i (x, A1)) ↔ c ∈ A ∨ c ∈ fl as := fun c => by rw [pm.mem_iff, List.mem_append]
  have bb : ∀ c, ban F os (as.set i (x, A1)) c ↔ ban F ((k, A) :: os) as c := fun c => by
    rw [ban_cons]
    unfold ban
    rw [mfl]
    constructor
    · rintro (h | h | h | h)
      · exact .inr (.inl h)
      · exact .inr (.inr (.inl h))
      · exact .inl h
      · exact .inr (.inr (.inr h))
    · rintro (h | h | h | h)
      · exact .inr (.inr (.inl h))
      · exact .inl h
      · exact .inr (.inl h)
      · exact .inr (.inr (.inr h))
  have hbb : ban F ((k, A) :: os) as b := .inr (.inr (mem_fl (List.mem_of_getElem? e0) mb))
  have hA : ∀ c ∈ A, ban F ((k, A) :: os) as c := fun c m => .inr (.inl (List.mem_append_left _ m))
  have rb : RB (ban F ((k, A) :: os) as) H H' :=
    ⟨fun c y n e => kp c y e (fun z => n (by rw [z]; exact hbb)) fun m => n (hA c m), fun c xs e => kp c _ e (fun z => by rw [z, eb] at e; exact nt xs (Option.some.inj e)) fun m => ntA c m xs e, fun c y z e => kp c _ e (fun q => by rw [q, eb] at e; exact nf y z (Option.some.inj e)) fun m => nfA c m y z e, fun c _ n => al c n⟩
  have up : ∀ v w, im F.G (rts as) (ban F ((k, A) :: os) as) v w H → im F.G (rts as) (ban F os (as.set i (x, A1))) v w H' := fun v w h => im_sub (fun c _ z => (bb c).mp z) _ _ (im_st rb _ _ h)
  have tp : ∀ c xs, H c = some (.tup xs) → H' c = some (.tup xs) := fun c xs e => rb.tup c xs e
  have nd : (A ++ (flo os ++ fl as)).Nodup := by rw [← List.append_assoc]; exact S.nd
  have nd1 := List.nodup_append.mp nd
  have ndf := (List.nodup_append.mp nd1.2.1).2.1
  have rse := rts_set (A := A1) e0
  refine ⟨fun p m => by rw [rse]; exact up _ _ (S.gh p m), ⟨⟨fun c y n e => ?_, fun c xs e => tp c xs (S.rel.rb.tup c xs e), fun c y z e => rb.frz c y z (S.rel.rb.frz c y z e), fun c _ n => al c (S.rel.alive n)⟩, fun j c e => by rw [rse]; exact S.rel.pre j c e, fun c m => ?_⟩, fun c z => al c (S.ok c ((bb c).mp z)), ?_, (List.nodup_cons.mp S.ix).2, fun c m => S.new c (List.mem_append_right A m), fun c z => ?_, ?_, S.len, fun j s e => ?_⟩
  · refine kp c y (S.rel.rb.keep c y n e) (fun z => ?_) fun m => ?_
    · rcases S.rel.new c (by rw [z]; exact mem_fl (List.mem_of_getElem? e0) mb) with w | w
      · exact n w
      · rw [e] at w; cases w
    · have := S.new c (List.mem_append_left _ m)
      rw [e] at this; cases this
  · rcases (mfl c).mp m with m | m
    · exact .inr (S.new c (List.mem_append_left _ m))
    · exact S.rel.new c m
  · have : (flo os ++ fl (as.set i (x, A1))).Perm (A ++ (flo os ++ fl as)) := by
      refine (List.Perm.append_left (flo os) pm).trans ?_
      rw [← List.append_assoc, ← List.append_assoc]
      exact (List.perm_append_comm).append_right _
    exact this.nodup_iff.mpr nd
  · rcases z with z | z
    · exact S.nb c (.inl (List.mem_append_right A z))
    · rcases (mfl c).mp z with m | m
      · exact S.nb c (.inl (List.mem_append_left _ m))
      · exact S.nb c (.inr m)
  · rw [rse]
    have s0 : StOk F.G (ban F os (as.set i (x, A1))) (rts as) as st H := StOk.mono (fun v w h => im_sub (fun c _ z => (bb c).mp z) _ _ h) (fun _ _ h => h) (fun _ _ => rfl) S.sto
    have hk2 : ∀ v w, im F.G (rts as) (ban F os (as.set i (x, A1))) v w H → im F.G (rts as) (ban F os (as.set i (x, A1))) v w H' := fun v w h => up v w (im_sub (fun c _ z => (bb c).mpr z) _ _ h)
    refine StOk.put hk2 s0 e0 (fun j q eq ne c m => ?_) (ow up)
    have mf : c ∈ fl as := mem_fl (List.mem_of_getElem? eq) m
    cases e : H c with
    | none => exact absurd e (S.ok c (.inr (.inr mf)))
    | some y =>
      refine kp c y e (fun z => ne ?_) fun mA => nd1.2.2 c mA c (List.mem_append_right _ mf) rfl
      subst z
      exact sa_disj ndf eq e0 m mb
  · obtain ⟨v, h1, h2⟩ := S.at_ j s e
    refine ⟨v, h1, ?_⟩
    match s, h2 with
    | .im u, h2 => show im F.G _ _ _ _ _; rw [rse]; exact up _ _ h2
    | .raw _, h2 => exact h2
    | .own sh u, ⟨C, m, h2⟩ =>
      have m' : (j, C) ∈ os := by
        rcases List.mem_cons.mp m with z | m
        · have := getElem?_lt e
          have : j = k := (Prod.mk.inj z).1
          omega
        · exact m
      refine ⟨C, m', ?_⟩
      rw [rse]
      refine own_mono up tp _ _ _ _ (fun c mc => ?_) h2
      have mo : c ∈ flo os := mem_flo m' mc
      cases ec : H c with
      | none => exact absurd ec (S.ok c (.inr (.inl (List.mem_append_right A mo))))
      | some y =>
        refine kp c y ec (fun z => ?_) fun mA => nd1.2.2 c mA c (List.mem_append_left _ mo) rfl
        exact (List.nodup_append.mp nd1.2.1).2.2 c mo b (mem_fl (List.mem_of_getElem? e0) mb) z
end
def newF (cs : List Str) (f : Str) (c : Cl) (x : U) : Option U := match c.2.1 with
  | .obj c0 ns us => if c0 ∈ cs ∧ idxF f ns = none ∧ ns.length = us.length ∧ us.length < 1000 then some (c.2.2 (.obj c0 (ns ++ [f]) (us ++ [x]))) else none
  | _ => none
section
variable {F : Fr} {os : Os} {as : SA} {st : Sto} {γ : List (U × V)} {H : Hp} {σ : L2.St} {δ : Dl}
theorem ownFs_snoc {G : Cxt} {rs rs2 : List Addr} {B B2 : Bn} {H H2 : Hp} {u : U} {v : V} {A' : List Addr} (t : ∀ u v, im G rs B u v H → im G rs2 B2 u v H2) (h' : ownF G rs2 B2 u v H2 A') : ∀ {us : List U} {vs : List V} {A : List Addr}, (∀ a ∈ A, H2 a = H a) → ownFs G rs B us vs H A → ownFs G rs2 B2 (us ++ [u]) (vs ++ [v]) H2 (A ++ A')
  | [], _, _, _, ⟨e1, e2⟩ => by subst e1 e2; exact ⟨v, [], A', [], rfl, by simp, h', rfl, rfl⟩
  | x :: us, _, A, k, ⟨y, r, A1, A2, e1, e2, h1, h2⟩ => by
    subst e1 e2
    exact ⟨y, r ++ [v], A1, A2 ++ A', rfl, by simp, ownF_mono t x y A1 (fun a m => k a (List.mem_append_left _ m)) h1, ownFs_snoc t h' (fun a m => k a (List.mem_append_right _ m)) h2⟩
theorem ownF_notup {G : Cxt} {rs : List Addr} {B : Bn} {H : Hp} : (∀ (u : U) (v : V) (A : List Addr), ownF G rs B u v H A → ∀ c ∈ A, (∀ xs, H c ≠ some (.tup xs)) ∧ ∀ y z, H c ≠ some (.frz y z)) := by
  have key : ∀ (n : Nat), (∀ (u : U) (v : V) (A : List Addr), sizeOf u ≤ n → ownF G rs B u v H A → ∀ c ∈ A, (∀ xs, H c ≠ some (.tup xs)) ∧ ∀ y z, H c ≠ some (.frz y z)) ∧ (∀ (us : List U) (vs : List V) (A : List Addr), sizeOf us ≤ n → ownFs G rs B us vs H A → ∀ c ∈ A, (∀ xs, H c ≠ some (.tup xs)) ∧ ∀ y z, H c ≠ some (.frz y z)) := by
    intro n
    induction n with
    | zero =>
      constructor
      · intro u v A hs
        cases u <;> simp at hs
      · intro us vs A hs
        cases us <;> simp at hs
    | succ n ih =>
      constructor
      · intro u v A hs h c m
        cases u with
        | lst us =>
          obtain ⟨a, vs, A', e1, e2, e3, q⟩ := h
          rw [e2] at m
          rcases List.mem_cons.mp m with z | m
          · subst z; exact ⟨(fun xs z => by rw [e3] at z; cases z), fun y z w => by rw [e3] at w; cases w⟩
          · exact ih.2 us vs A' (by simp at hs; omega) q c m
        | dct ks us =>
          obtain ⟨a, vs, A', e1, e2, e3, l, q⟩ := h
          rw [e2] at m
          rcases List.mem_cons.mp m with z | m
          · subst z; exact ⟨(fun xs z => by rw [e3] at z; cases z), fun y z w => by rw [e3] at w; cases w⟩
          · exact ih.2 us vs A' (by simp at hs; omega) q c m
        | dcT ks us =>
          obtain ⟨a, vs, A', e1, e2, e3, l, q⟩ := h
          rw [e2] at m
          rcases List.mem_cons.mp m with z | m
          · subst z; exact ⟨(fun xs z => by rw [e3] at z; cases z), fun y z w => by rw [e3] at w; cases w⟩
          · exact ih.2 us vs A' (by simp at hs; omega) q c m
        | _ => rw [h.1] at m; cases m
      · intro us vs A hs h c m
        cases us with
        | nil => rw [h.2] at m; cases m
        | cons u us =>
          obtain ⟨v, r, A1, A2, e1, e2, h1, h2⟩ := h
          rw [e2] at m
          rcases List.mem_append.mp m with m | m
          · exact ih.1 u v A1 (by simp at hs; omega) h1 c m
          · exact ih.2 us r A2 (by simp at hs; omega) h2 c m
  intro u v A h
  exact (key (sizeOf u)).1 u v A (Nat.le_refl _) h
theorem blk_fldC {S L : Type} {δn : S → Dl} {δl : L → Dl} {cs : List Str} {f : Str} {j : Nat} {u0 : U} {te : TE} {t2 : TS} {we : M U} {k : M (Out S L)} (hc : ∀ c ∈ cs, Cls F.G.K (F.G.at_ c) ∧ NoAttr F.G.K (F.G.at_ c) f) (he : EvNF F te δ we) (hj : δ[j]? = some (some (.im u0))) (h2 : Blk F t2 δ k δn δl) :
    Blk F (tSeq (sFld F.G.K (tVar j) te f) t2) δ (.bind we fun x => .bind (locM u0) fun c => .bind (.o (newF cs f c x)) fun u => .bind (putC c.1 u) fun _ => k) δn δl := fun D os as st γ σ H o st' Q q P => by
  obtain ⟨x, st1, q1, q2⟩ := M.bind_inv q
  obtain ⟨c, st2, q3, q4⟩ := M.bind_inv q2
  obtain ⟨u, st3, q5, q6⟩ := M.bind_inv q4
  obtain ⟨_, st4, q7, q8⟩ := M.bind_inv q6
  obtain ⟨ed, rfl⟩ := M.o_inv q5
  clear q q2 q4 q6
  refine he os as st γ σ H x st1 Q q1 _ fun xv H1 as1 A g1 S1 px n => ?_
  obtain ⟨k1, hk1, hl1⟩ := nodup_fresh (os.map (·.1)) δ.length
  have S2 := S1 k1 hk1
  obtain ⟨v, ev, pv⟩ := S2.get hj
  refine ⟨v, ev, ?_⟩
  cases u0 with
  | loc i => ?_
  | _ => cases q3
  obtain ⟨a, ea, evv⟩ := pv
  simp only [locM] at q3
  cases es : st1[i]? with
  | none => rw [es] at q3; cases q3
  | some x0 =>
    rw [es] at q3
    simp only at q3
    cases q3
    obtain ⟨⟨a', A0⟩, e1, e2⟩ : ∃ p, as1[i]? = some p ∧ p.1 = a := by
      unfold rts at ea
      rw [List.getElem?_map] at ea
      exact Option.map_eq_some_iff.mp ea
    simp only at e2
    subst e2
    have oc := S2.sto.get e1 es
    cases x0 with
    | obj c0 ns us =>
      simp only [newF, id] at ed
      split at ed
      case isFalse => cases ed
      rename_i hcond
      cases ed
      obtain ⟨b, dx, vs, B, f1, f2, f3, l, z⟩ := oc
      cases f1
      have f2 : A0 = a' :: B := f2
      have lv : ns.length = vs.length := by rw [ownFs_len z]; exact l
      refine ⟨a', F.G.at_ c0, dx, _, evv, f3, (hc c0 hcond.1).1, (hc c0 hcond.1).2, by rw [List.length_zip, lv, Nat.min_self, ownFs_len z]; exact hcond.2.2.2, ?_⟩
      rw [idx_none hcond.2.1 lv]
      unfold putC at q7
      simp only [getElem?_lt es, if_true] at q7
      cases q7
      have nd : (A ++ (flo os ++ fl as1)).Nodup := by rw [← List.append_assoc]; exact S2.nd
      have nA : ∀ c ∈ A, c ≠ a' := fun c m e => (List.nodup_append.mp nd).2.2 c m a' (List.mem_append_right _ (mem_fl (List.mem_of_getElem? e1) (by rw [f2]; exact List.mem_cons_self))) e
      have nB : ∀ c ∈ B, c ≠ a' := fun c m e => by
        have := sa_nodup as1 i (List.nodup_append.mp (List.nodup_append.mp nd).2.1).2.1 e1
        rw [f2] at this
        exact (List.nodup_cons.mp this).1 (e ▸ m)
      refine h2 D os _ _ γ σ _ o st' (S2.give (i := i) (x := a') (b := a') (A0 := A0) (A1 := A0 ++ A) (H' := upd H1 a' (.ins (F.G.at_ c0) dx ((ns ++ [f]).zip (vs ++ [xv])))) (List.Perm.refl _) hl1 e1 (by rw [f2]; exact List.mem_cons_self) f3 (fun _ z => nomatch z) (fun _ _ z => nomatch z) (fun c y e ne _ => by rw [upd_ne ne]; exact e) (fun c ne => ?_) (fun c m xs => (ownF_notup _ _ _ px c m).1 xs) (fun c m y z => (ownF_notup _ _ _ px c m).2 y z) fun up => ?_) q8 P
      · by_cases z : c = a'
        · rw [z, upd_same]; exact fun q => nomatch q
        · rw [upd_ne z]; exact ne
      · refine ⟨a', dx, vs ++ [xv], B ++ A, rfl, by rw [f2]; rfl, upd_same, by rw [List.length_append, List.length_append, l]; rfl, ?_⟩
        exact ownFs_snoc up (ownF_mono up _ _ _ (fun c m => upd_ne (nA c m)) px) (fun c m => upd_ne (nB c m)) z
    | _ => cases ed
end
structure LSF (F : Fr) (os : Os) (k0 : Nat) (D : Addr) (as : SA) (st : Sto) (γ : List (U × V)) (H : Hp) (σ : L2.St) (δ : Dl) (accU : List U) (A : List Addr) : Prop where
  S : SDo F ((k0, D :: A) :: os) as st γ H σ δ
  a : ∃ acc, H D = some (.lst acc) ∧ ownFs F.G (rts as) (ban F ((k0, D :: A) :: os) as) accU acc H A
section
variable {F : Fr} {os : Os} {as as' : SA} {st st' : Sto} {γ : List (U × V)} {H H' : Hp} {σ : L2.St} {δ : Dl} {k0 : Nat} {D : Addr} {accU : List U} {A : List Addr}
theorem ownFs_go {os : Os} {us : List U} {vs : List V} {A : List Addr} (g : Go as as' H H') (h : ownFs F.G (rts as) (ban F os as) us vs H A) (k : ∀ a ∈ A, a ∉ fl as) (al : ∀ a ∈ A, H a ≠ none) : ownFs F.G (rts as') (ban F os as') us vs H' A :=
  ownFs_mono (fun _ _ h => im_go g h) _ _ _ (fun a m => by
    cases e : H a with
    | none => exact absurd e (al a m)
    | some o => exact g.rb.keep a o (k a m) e) h
theorem LSF.go (l : LSF F os k0 D as st γ H σ δ accU A) {σ' : L2.St} {δ' : Dl} (g : Go as as' H H') (S : SDo F ((k0, D :: A) :: os) as' st' γ H' σ' δ') : LSF F os k0 D as' st' γ H' σ' δ' accU A := by
  obtain ⟨acc, e, h⟩ := l.a
  have nf : ∀ a ∈ D :: A, a ∉ fl as := fun a m q => (List.nodup_append.mp l.S.nd).2.2 a (List.mem_append_left _ m) a q rfl
  exact ⟨S, acc, g.rb.keep _ _ (nf D List.mem_cons_self) e, ownFs_go g h (fun a m => nf a (List.mem_cons_of_mem _ m)) fun a m => l.S.ok a (.inr (.inl (List.mem_append_left _ (List.mem_cons_of_mem _ m))))⟩
theorem LSF.push {k : Nat} {B : List Addr} (l : LSF F os k0 D as st γ H σ δ accU A) (hk : δ.length ≤ k0) (hk1 : δ.length ≤ k) (hko : k0 ∉ os.map (·.1)) {u : U} {y : V} {as2 : SA} {st2 : Sto} {H2 : Hp} (g : Go as as2 H H2) (S2 : SDo F ((k, B) :: (k0, D :: A) :: os) as2 st2 γ H2 σ δ) (hB : ∀ a ∈ B, H a = none) (p : ownF F.G (rts as2) (ban F ((0, B) :: (k0, D :: A) :: os) as2) u y H2 B) :
    ∃ acc, H2 D = some (.lst acc) ∧ acc.length = accU.length ∧ LSF F os k0 D as2 st2 γ (upd H2 D (.lst (acc ++ [y]))) σ δ (accU ++ [u]) (A ++ B) := by
  obtain ⟨acc, e, h⟩ := l.a
  have nf : ∀ a ∈ D :: A, a ∉ fl as := fun a m q => (List.nodup_append.mp l.S.nd).2.2 a (List.mem_append_left _ m) a q rfl
  have al : ∀ a ∈ D :: A, H a ≠ none := fun a m => l.S.ok a (.inr (.inl (List.mem_append_left _ m)))
  have e2 : H2 D = some (.lst acc) := g.rb.keep _ _ (nf D List.mem_cons_self) e
  have h2 : ownFs F.G (rts as2) (ban F ((k, B) :: (k0, D :: A) :: os) as2) accU acc H2 A := by
    have h1 : ownFs F.G (rts as) (ban F ((k, B) :: (k0, D :: A) :: os) as) accU acc H A := ownFs_mono (fun _ _ z => im_sub (sub_cons hB) _ _ z) _ _ _ (fun _ _ => rfl) h
    exact ownFs_go (os := (k, B) :: (k0, D :: A) :: os) g h1 (fun a m => nf a (List.mem_cons_of_mem _ m)) fun a m => al a (List.mem_cons_of_mem _ m)
  have S3 := S2.merge (k := k0) hk hk1 hko
  have c : Chg F ((k0, (D :: A) ++ B) :: os) as2 H2 (upd H2 D (.lst (acc ++ [y]))) k0 ((D :: A) ++ B) ((D :: A) ++ B) D := chg_same List.mem_cons_self List.mem_cons_self S3 e2 (fun _ z => nomatch z) (fun _ _ z => nomatch z)
  have S4 := S3.mut c (x := none) (fun _ z => nomatch z)
  have so := setOs_same S3.ix (List.mem_cons_self (a := (k0, (D :: A) ++ B)) (l := os))
  rw [so, List.set_eq_of_length_le hk] at S4
  have bb : ∀ a, ban F ((k0, (D :: A) ++ B) :: os) as2 a → ban F ((k, B) :: (k0, D :: A) :: os) as2 a := fun a b => by
    rw [ban_cons, List.mem_append] at b
    rw [ban_cons, ban_cons]
    rcases b with (h | h) | h
    · exact .inr (.inl h)
    · exact .inl h
    · exact .inr (.inr h)
  have up : ∀ u v, im F.G (rts as2) (ban F ((k, B) :: (k0, D :: A) :: os) as2) u v H2 → im F.G (rts as2) (ban F ((k0, D :: (A ++ B)) :: os) as2) u v (upd H2 D (.lst (acc ++ [y]))) := fun u v h => by
    have h1 : im F.G (rts as2) (ban F ((k0, (D :: A) ++ B) :: os) as2) u v H2 := im_sub (fun a _ b => bb a b) _ _ h
    have := c.im h1
    rw [so] at this
    exact this
  have nd : ((D :: A) ++ B).Nodup := os_nodup _ (List.nodup_append.mp S3.nd).1 List.mem_cons_self
  have nD := (List.nodup_cons.mp (show (D :: (A ++ B)).Nodup from nd)).1
  refine ⟨acc, e2, ownFs_len h, S4, acc ++ [y], upd_same, ?_⟩
  exact ownFs_snoc up (ownF_mono up _ _ _ (fun a m => upd_ne fun z => nD (z ▸ List.mem_append_right _ m)) p) (fun a m => upd_ne fun z => nD (z ▸ List.mem_append_left _ m)) h2
end
section
variable {F : Fr} {δ : Dl} {wi : TI} {g : TG} {tt : TT} {te : TE} {vs : List Nat} {wl : M (List U)}
theorem en_dK : EvN F (.dct .leaf) tDNewK δ (.ret (.dct [] [])) := fun os as st γ σ H c st' S q QQ k => by
  cases q
  intro p hp
  refine k _ _ as [p] (Go.of_ex (Ex.new hp)) (fun k hk => S.grow hk hp (Ex.new hp) (by rw [upd_same]; exact fun z => nomatch z)) ⟨p, [], [], rfl, rfl, upd_same, rfl, rfl, rfl⟩ fun a m => by rw [List.mem_singleton] at m; rw [m]; exact hp
end
def keyU : U → Option Key
  | .int i => some (.inl i)
  | .str x => some (.inr x)
  | _ => none
def keysU : List U → Option (List Key)
  | [] => some []
  | u :: us => match keyU u, keysU us with
    | some k, some ks => some (k :: ks)
    | _, _ => none
def tkeyU : U → Option (List Key)
  | .tup us => keysU us
  | _ => none
def idxK {κ : Type} [DecidableEq κ] (k : κ) : List κ → Option Nat
  | [] => none
  | x :: xs => if x = k then some 0 else (idxK k xs).map (· + 1)
section
variable {κ : Type} [DecidableEq κ]
theorem idxK_none {k : κ} : ∀ {ks : List κ} {vs : List V}, idxK k ks = none → valV (ks.zip vs) k = none
  | [], vs, _ => rfl
  | x :: ks, [], _ => rfl
  | x :: ks, w :: vs, e => by
    unfold idxK at e
    by_cases z : x = k
    · rw [if_pos z] at e; cases e
    · rw [if_neg z] at e
      rw [List.zip_cons_cons, valV_neg z]
      refine idxK_none ?_
      cases q : idxK k ks with
      | none => rfl
      | some j => rw [q] at e; cases e
theorem putK_zip {k : κ} {y : V} {ks : List κ} {vs : List V} (l : ks.length = vs.length) (e : idxK k ks = none) : putK (ks.zip vs) k y = (ks ++ [k]).zip (vs ++ [y]) := by
  rw [putK_new y (idxK_none e), List.zip_append l]
  rfl
theorem putK_set {k : κ} {y : V} : ∀ {ks : List κ} {vs : List V} {j : Nat}, ks.length = vs.length → ks.Nodup → idxK k ks = some j → (ks.zip vs).map (fun kv => if kv.1 = k then (kv.1, y) else kv) = ks.zip (vs.set j y)
  | [], _, _, _, _, e => by cases e
  | x :: ks, [], _, l, _, _ => by cases l
  | x :: ks, v :: vs, j, l, nd, e => by
    unfold idxK at e
    have nd' := List.nodup_cons.mp nd
    by_cases z : x = k
    · rw [if_pos z] at e; cases e
      rw [List.zip_cons_cons, List.map_cons, if_pos z, List.set_cons_zero, List.zip_cons_cons]
      congr 1
      have : ∀ p ∈ ks.zip vs, (if p.1 = k then (p.1, y) else p) = p := fun p m => if_neg fun q => nd'.1 (by rw [z, ← q]; exact (List.of_mem_zip m).1)
      rw [List.map_congr_left this, List.map_id']
    · rw [if_neg z] at e
      obtain ⟨j', e', rfl⟩ := Option.map_eq_some_iff.mp e
      rw [List.zip_cons_cons, List.map_cons, if_neg z, putK_set (by simpa using l) nd'.2 e', List.set_cons_succ, List.zip_cons_cons]
end
section
variable {F : Fr} {os : Os} {as : SA} {st : Sto} {γ : List (U × V)} {H : Hp} {σ : L2.St} {δ : Dl}
theorem im_key {G : Cxt} {rs : List Addr} {B : Bn} {u : U} {v : V} {k : Key} (e : keyU u = some k) (h : im G rs B u v H) : v = kV k := by
  cases u <;> simp [keyU] at e
  · subst e; exact h
  · subst e; exact h
theorem HoleC.key {r : Bool} {i j : Nat} {ks : List Key} {us : List U} {f : U → U} {v : V} {u : U} (p : HoleC F os as H r i (.dct ks us, f) v) (eu : us[j]? = some u) : ∃ d vs w, v = .ref d ∧ H d = some (.dK (ks.zip vs)) ∧ ks.length = us.length ∧ vs.length = us.length ∧ vs[j]? = some w ∧ HoleC F os as H false i (u, fun x => f (.dct ks (us.set j x))) w := by
  obtain ⟨a, A, A1, A', A2, e0, eA, o, pl⟩ := p.ex
  have o : ownF F.G (rts as) (ban F os as) (.dct ks us) v H A' := by cases r <;> exact o
  obtain ⟨d, vs, B, e1, e2, e3, l, z⟩ := o
  obtain ⟨w, B1, B', B2, f1', f2, f3, f4⟩ := ownFs_split z eu
  refine ⟨d, vs, w, e1, e3, l, ownFs_len z, f1', a, A, A1 ++ d :: B1, B', B2 ++ A2, e0, by rw [eA, e2, f2]; simp, f3, fun rs2 B2' H3 u2 A'2 t1 t3 o2 => ?_⟩
  have := pl rs2 B2' H3 (.dct ks (us.set j u2)) (d :: (B1 ++ (A'2 ++ B2))) t1 (fun b z => t3 b (z.imp (fun z => List.mem_append_left _ z) fun z => List.mem_append_right _ z)) (by
    have : ownF F.G rs2 B2' (.dct ks (us.set j u2)) v H3 (d :: (B1 ++ (A'2 ++ B2))) := ⟨d, vs, B1 ++ (A'2 ++ B2), e1, rfl, by rw [t3 d (.inl (List.mem_append_right _ List.mem_cons_self))]; exact e3, by rw [List.length_set]; exact l, f4 rs2 B2' H3 u2 A'2 t1 (fun b z => t3 b (z.imp (fun z => List.mem_append_right _ (List.mem_cons_of_mem _ z)) fun z => List.mem_append_left _ z)) o2⟩
    cases r <;> exact this)
  simpa using this
end
def getU : U → U → Option (Option U)
  | .dct ks us, k => match keyU k with
    | some k => match idxK k ks with
      | some j => (us[j]?).map some
      | none => some none
    | none => none
  | .dcT ks us, k => match tkeyU k with
    | some k => match idxK k ks with
      | some j => (us[j]?).map some
      | none => some none
    | none => none
  | _, _ => none
section
variable {F : Fr} {os : Os} {as : SA} {H : Hp}
theorem im_keys {G : Cxt} {rs : List Addr} {B : Bn} : ∀ {us : List U} {vs : List V} {ks : List Key}, keysU us = some ks → imAll G rs B us vs H → vs = ks.map kV
  | [], _, _, e, h => by cases e; exact h
  | u :: us, _, ks, e, ⟨v, r, ev, h1, h2⟩ => by
    unfold keysU at e
    cases e1 : keyU u with
    | none => rw [e1] at e; cases e
    | some k =>
      cases e2 : keysU us with
      | none => rw [e1, e2] at e; cases e
      | some ks' =>
        rw [e1, e2] at e
        cases e
        rw [ev, im_key e1 h1, im_keys e2 h2]; rfl
end
section
variable {F : Fr} {δ : Dl} {td ty tx ta tb : TE} {wd wk wx wa wb : M U}
def inU (k d : U) : Option U := (getU d k).map fun r => .bl r.isSome
def notInU (k d : U) : Option U := (getU d k).map fun r => .bl (!r.isSome)
def itemU (d k : U) : Option U := (getU d k).join
def int1U : U → Option U
  | .int i => some (.int i)
  | .bl b => some (.int (if b then 1 else 0))
  | _ => none
theorem ok_int1 {r : List V → Hp → VK → Prop} (hr : ∀ (i : Int) (H : Hp) (Q : VK), Q (.int i) H → r [.int i] H Q) (hb : ∀ (b : Bool) (H : Hp) (Q : VK), Q (.int (if b then 1 else 0)) H → r [.bl b] H Q) : Op1Ok F r int1U := fun os as H a c x ok ha e QQ k => by
  cases a <;> simp [int1U] at e
  · subst e
    rw [show x = _ from ha]
    exact hb _ _ _ (k _ H (Ex.refl H) rfl)
  · subst e
    rw [show x = _ from ha]
    exact hr _ _ _ (k _ H (Ex.refl H) rfl)
end
end UX
namespace UX
open PySem PySem.Spec PyProof.Rows L2
open EL (Ex RB BOk Bn TK FnG okG rEqU rNeU)
section
variable {F : Fr} {S L : Type} {δ : Dl} {t2 : TS} {δn : S → Dl} {δl : L → Dl}
theorem blk_par2 {i0 i1 : Nat} {ta tb : TE} {wa wb : M U} {k : U → U → M (Out S L)} (ha : EvW F ta δ wa) (hb : EvW F tb δ wb) (h2 : ∀ a b, Blk F t2 ((δ.set i0 (some (.im a))).set i1 (some (.im b))) (k a b) δn δl) : Blk F (tSeq (tPar i0 i1 (tCons ta (tCons tb tNil))) t2) δ (.bind wa fun a => .bind wb fun b => k a b) δn δl := fun D os as st γ σ H o st' Q q P => by
  obtain ⟨a, st1, q1, q2⟩ := M.bind_inv q
  obtain ⟨b, st2, q3, q4⟩ := M.bind_inv q2
  clear q q2
  exact ha os as st γ σ H a _ Q q1 _ fun x H1 as1 g1 S1 px => hb os as1 st1 γ σ H1 b _ S1 q3 _ fun y H2 as2 g2 S2 py => ⟨x, y, rfl, h2 a b D os as2 st2 γ _ H2 o st' ((S2.set (x := .im a) (im_go g2 px)).set (x := .im b) py) q4 P⟩
end
section
variable {F : Fr} {δ : Dl} {tt : TT} {te : TE}
theorem lcp2 {i j : Nat} {vs : List Nat} {wt : U → U → M Bool} {we : U → U → M U} (hi : i ∈ vs) (hj : j ∈ vs) (h : ∀ a b, EvT F tt ((δ.set i (some (.im a))).set j (some (.im b))) (wt a b) ∧ EvW F te ((δ.set i (some (.im a))).set j (some (.im b))) (we a b)) :
    ∀ u st r, un2 u wt st = some r → ∃ δ', TgOk F (gTup F.G.K 2 (gCons (gName i) (gCons (gName j) gNil))) vs δ u δ' ∧ EvT F tt δ' (un2 u wt) ∧ EvW F te δ' (un2 u we) := by
  intro u st r e
  cases u with
  | tup us => ?_
  | _ => cases e
  match us, e with
  | [a, b], e => exact ⟨_, tg_two hi hj, h a b⟩
end
def zipL (a b : List U) : List U := List.zipWith (fun x y => U.tup [x, y]) a b
def zipU : U → U → Option (List U)
  | .lst a, .lst b => some (zipL a b)
  | .tup a, .tup b => some (zipL a b)
  | _, _ => none
def zipW (w w' : M U) : M (List U) := .bind w fun u => .bind w' fun u' => .o (zipU u u')
theorem zipL_len (a b : List U) : (zipL a b).length = min a.length b.length := List.length_zipWith
theorem zipL_get {a b : List U} {i : Nat} {u : U} (h : (zipL a b)[i]? = some u) : ∃ x y, a[i]? = some x ∧ b[i]? = some y ∧ u = .tup [x, y] := by
  unfold zipL at h
  rw [List.getElem?_zipWith] at h
  cases ea : a[i]? with
  | none => rw [ea] at h; cases h
  | some x =>
    cases eb : b[i]? with
    | none => rw [ea, eb] at h; cases h
    | some y => rw [ea, eb] at h; cases h; exact ⟨x, y, rfl, rfl, rfl⟩
section
variable {F : Fr} {δ : Dl} {te ta tb : TE} {w wa wb : M U}
theorem zip_pair {os : Os} {as : SA} {x y : U} {v v' : V} {H : Hp} {T : Addr} (hT : H T = none) (hx : im F.G (rts as) (ban F os as) x v H) (hy : im F.G (rts as) (ban F os as) y v' H) : im F.G (rts as) (ban F os as) (.tup [x, y]) (.ref T) (upd H T (.tup [v, v'])) :=
  ⟨T, [v, v'], rfl, upd_same, v, [v'], rfl, im_st (RB.of_ex (Ex.new hT)) _ _ hx, v', [], rfl, im_st (RB.of_ex (Ex.new hT)) _ _ hy, rfl⟩
theorem src_zip (ha : EvW F ta δ wa) (hb : EvW F tb δ wb) : Src F (RZ.iZipA F.G.K (tCons ta (tCons tb tNil))) δ (zipW wa wb) := fun os as st γ σ H us st' S q Q k => by
  obtain ⟨u, st1, qu, q1⟩ := M.bind_inv q
  obtain ⟨u', st2, qu', q2⟩ := M.bind_inv q1
  obtain ⟨e, rfl⟩ := M.o_inv q2
  refine ha os as st γ σ H _ _ S qu _ fun v H1 as1 g1 S1 p1 => ?_
  have S1' : SDo F os as1 st1 ([(u, v)] ++ γ) H1 σ δ := S1.ghost fun z m => by rw [List.mem_singleton] at m; rw [m]; exact p1
  refine hb os as1 st1 _ σ H1 _ _ S1' qu' _ fun v' H2 as2 g2 S2 p2 => ?_
  have S3 : SDo F os as2 st' ([(u', v')] ++ ([(u, v)] ++ γ)) H2 σ δ := S2.ghost fun z m => by rw [List.mem_singleton] at m; rw [m]; exact p2
  have pu : im F.G (rts as2) (ban F os as2) u v H2 := S2.gh (u, v) List.mem_cons_self
  have G3 : SDo F os as2 st' ([(u', v'), (u, v)] ++ γ) H2 σ δ := S3
  clear S1 S1' S2 S3 q q1 q2
  cases u <;> cases u' <;> simp [zipU] at e
  · subst e
    obtain ⟨a, vs, rfl, hs, hv⟩ := id pu
    obtain ⟨b, ws, rfl, hs', hv'⟩ := id p2
    refine ⟨a, b, vs, ws, rfl, .inr ⟨EL.sqT_of hs, EL.sqT_of hs', k _ H2 as2 _ (g1.trans g2) G3 ⟨fun i os as st γ σ δ H hi S2 => ?_, fun os as st γ σ δ H S2 => ?_, fun i os as st γ σ δ x H H' z e S2 y => ?_⟩⟩⟩ <;> obtain ⟨a2, vs2, ev2, ht, hv2⟩ := S2.gh _ (List.mem_cons_of_mem _ List.mem_cons_self) <;> obtain ⟨b2, ws2, ev3, ht', hv3⟩ := S2.gh _ List.mem_cons_self <;> cases ev2 <;> cases ev3
    · rw [zipL_len] at hi
      have h1 : i < vs2.length := by rw [imAll_len hv2]; omega
      have h2 : i < ws2.length := by rw [imAll_len hv3]; omega
      exact ⟨vs2, ws2, vs2[i], ws2[i], EL.sqT_of ht, EL.sqT_of ht', List.getElem?_eq_getElem h1, List.getElem?_eq_getElem h2⟩
    · refine ⟨vs2, ws2, EL.sqT_of ht, EL.sqT_of ht', ?_⟩
      rw [zipL_len, imAll_len hv2, imAll_len hv3]
      omega
    · obtain ⟨T, x1, x2, rfl, hT, rfl, f1, f2⟩ := y
      obtain ⟨c, d, e1, e2, rfl⟩ := zipL_get e
      obtain ⟨y1, e3, p3⟩ := imAll_get hv2 e1
      obtain ⟨y2, e4, p4⟩ := imAll_get hv3 e2
      rw [f1 _ (EL.sqT_of ht)] at e3
      rw [f2 _ (EL.sqT_of ht')] at e4
      cases e3; cases e4
      exact ⟨Ex.new hT, zip_pair hT p3 p4⟩
  · subst e
    obtain ⟨a, vs, rfl, nb, hs, hv⟩ := id pu
    obtain ⟨b, ws, rfl, nb', hs', hv'⟩ := id p2
    refine ⟨a, b, vs, ws, rfl, .inl ⟨EL.sqL_of hs, EL.sqL_of hs', k _ H2 as2 _ (g1.trans g2) G3 ⟨fun i os as st γ σ δ H hi S2 => ?_, fun os as st γ σ δ H S2 => ?_, fun i os as st γ σ δ x H H' z e S2 y => ?_⟩⟩⟩ <;> obtain ⟨a2, vs2, ev2, n2, ht, hv2⟩ := S2.gh _ (List.mem_cons_of_mem _ List.mem_cons_self) <;> obtain ⟨b2, ws2, ev3, n3, ht', hv3⟩ := S2.gh _ List.mem_cons_self <;> cases ev2 <;> cases ev3
    · rw [zipL_len] at hi
      have h1 : i < vs2.length := by rw [imAll_len hv2]; omega
      have h2 : i < ws2.length := by rw [imAll_len hv3]; omega
      exact ⟨vs2, ws2, vs2[i], ws2[i], EL.sqL_of ht, EL.sqL_of ht', List.getElem?_eq_getElem h1, List.getElem?_eq_getElem h2⟩
    · refine ⟨vs2, ws2, EL.sqL_of ht, EL.sqL_of ht', ?_⟩
      rw [zipL_len, imAll_len hv2, imAll_len hv3]
      omega
    · obtain ⟨T, x1, x2, rfl, hT, rfl, f1, f2⟩ := y
      obtain ⟨c, d, e1, e2, rfl⟩ := zipL_get e
      obtain ⟨y1, e3, p3⟩ := imAll_get hv2 e1
      obtain ⟨y2, e4, p4⟩ := imAll_get hv3 e2
      rw [f1 _ (EL.sqL_of ht)] at e3
      rw [f2 _ (EL.sqL_of ht')] at e4
      cases e3; cases e4
      exact ⟨Ex.new hT, zip_pair hT p3 p4⟩
end
def gNames : List Nat → TGs
  | [] => gNil
  | i :: is => gCons (gName i) (gNames is)
section
variable {F : Fr}
def un4 {α : Type} (u : U) (k : U → U → U → U → M α) : M α := match u with
  | .tup [a, b, c, d] => k a b c d
  | _ => .fail
def un5 {α : Type} (u : U) (k : U → U → U → U → U → M α) : M α := match u with
  | .tup [a, b, c, d, e] => k a b c d e
  | _ => .fail
section
variable {α : Type} {P : Dl → M α → Prop} {δ : Dl} {i0 i1 i2 i3 i4 i5 : Nat} {vs : List Nat}
end
end
section
variable {F : Fr} {S L : Type} {δ : Dl} {t2 : TS} {δn : S → Dl} {δl : L → Dl}
end
def vTab (at_ : Str → Addr) : U → Option V
  | .top x => some (.ref (at_ x))
  | .str s => some (.str s)
  | .int i => some (.int i)
  | _ => none
structure TabF (K : PySem.W.Frag) (at_ : Str → Addr) (w : World) (d : Addr) (tab : List (Str × U)) : Prop where
  kd : ∃ es n, KDict K w d es n
  val : ∀ z u, tab.lookup z = some u → ∃ u0 v, PySem.W.nsIn K d z = some (some u0) ∧ vTab at_ u = some v ∧ RelV v u0
  no : ∀ z, tab.lookup z = none → PySem.W.nsIn K d z = some none
section
variable {F : Fr} {w : World} {nm : Str} {tab : List (Str × U)} {δ : Dl}
theorem ev_top {x : Str} : EvW F (tC (.ref (F.G.at_ x))) δ (.ret (.top x)) := ev_c fun _ _ _ => rfl
end
def tCallJ (at_ : Str → Addr) (G : Cxt) (i : Nat) (fs : List (Str × (List U → M U))) (E : XK) (t : TA) : TE := fun σ H Q => ∃ p ∈ fs, tCallL i (at_ p.1) (spM G p.2) [] E t σ H Q
theorem pe_callJ {X : Cx} {at_ : Str → Addr} {G : Cxt} {i : Nat} {fs : List (Str × (List U → M U))} {E : XK} {t : TA} {e : Expr} (h : ∀ p ∈ fs, PE X e (tCallL i (at_ p.1) (spM G p.2) [] E t)) : PE X e (tCallJ at_ G i fs E t) :=
  ⟨fun pins s σ H Q I ⟨p, m, q⟩ => (h p m).run pins s σ H Q I q⟩
theorem callJ_nil {X : Cx} {at_ : Str → Addr} {G : Cxt} {i : Nat} {E : XK} {t : TA} {e : Expr} : ∀ p ∈ ([] : List (Str × (List U → M U))), PE X e (tCallL i (at_ p.1) (spM G p.2) [] E t) := fun _ m => nomatch m
theorem callJ_cons {X : Cx} {at_ : Str → Addr} {G : Cxt} {i : Nat} {E : XK} {t : TA} {e : Expr} {x : Str} {f : List U → M U} {l : List (Str × (List U → M U))} (h : PE X e (tCallL i (at_ x) (spM G f) [] E t)) (k : ∀ p ∈ l, PE X e (tCallL i (at_ p.1) (spM G p.2) [] E t)) : ∀ p ∈ (x, f) :: l, PE X e (tCallL i (at_ p.1) (spM G p.2) [] E t) := fun p m => (List.mem_cons.mp m).elim (fun z => z ▸ h) (k p)
def callJM (fs : List (Str × (List U → M U))) (u : U) (wa : M (List U)) : M U := match u with
  | .top x => match fs.lookup x with
    | some f => callM f wa
    | none => .fail
  | _ => .fail
theorem lookup_mem {α : Type} : ∀ {l : List (Str × α)} {x : Str} {a : α}, l.lookup x = some a → (x, a) ∈ l
  | [], _, _, h => nomatch h
  | (y, b) :: l, x, a, h => by
    rw [List.lookup_cons] at h
    split at h
    · rename_i e
      cases h
      rw [show x = y from by simpa using e]
      exact List.mem_cons_self
    · exact List.mem_cons_of_mem _ (lookup_mem h)
theorem ev_callJ {F : Fr} {δ : Dl} {i : Nat} {fs : List (Str × (List U → M U))} {E : XK} {ta : TA} {wa : M (List U)} {u : U} (hi : δ[i]? = some (some (.im u))) (h : EvAW F ta δ wa) : EvW F (tCallJ F.G.at_ F.G i fs E ta) δ (callJM fs u wa) := fun os as st γ σ H c st' S q QQ k => by
  obtain ⟨v, hv, pv⟩ := S.get hi
  cases u with
  | top x => ?_
  | _ => cases q
  have pv : v = .ref (F.G.at_ x) := pv
  subst pv
  simp only [callJM] at q
  cases e : fs.lookup x with
  | none => rw [e] at q; cases q
  | some f =>
    rw [e] at q
    exact ⟨(x, f), lookup_mem e, hv, ev_call (E := E) h os as st γ σ H c st' S q QQ k⟩
theorem pg_tupK {X : Cx} (K : PySem.W.Frag) {es : List Expr} {k : Nat} {t : TGs} {n : Nat} {pos : Pos} (hc : X.calm = true) (h : PGs X es t) (hn : (assignEach es X.env).length = n := by rfl) (hst : (assignEach es X.env).findIdx? (·.1) = none := by rfl) (hK : X.K = K := by rfl) : PG X (.Tuple es k pos) (gTup K n t) := hK ▸ pg_tup hc h hn hst
section
variable {F : Fr} {S L : Type} {δ : Dl} {t2 : TS} {δn : S → Dl} {δl : L → Dl}
end
end UX
namespace UX
open PySem PySem.Spec PyProof.Rows L2
section
variable {X : Cx} (K : PySem.W.Frag)
theorem pe_fldK {e : Expr} {ta : TE} {f : Str} {pos : Pos} (he : PE X e ta) (hb : attributeBase e f X.env (eval e X.env) = eval e X.env) (hK : X.K = K := by rfl) : PE X (.Attribute e f pos) (tFld K ta f) := hK ▸ pe_fld he hb
theorem pi_zipAK {e e2 : Expr} {ta : TA} {p pos tpos : Pos} {elts : List Expr} {kk : Nat} (hg : Gl X "zip") (hm : X.mg "zip" = none) (ha : PA X [e, e2] ta)
    (hs : starEach [e, e2] X.env = (false, eval e X.env) :: starEach [e2] X.env := by rfl) (hpl : (backTo pos (starEach [e2] X.env)).any (·.1) = false := by rfl) (hK : X.K = K := by rfl) :
    PI X (.Tuple elts kk tpos) (.Call (.Name "zip" p) [e, e2] [] pos) (RZ.iZipA K ta) := hK ▸ RZ.pi_zipA hg hm ha hs hpl
end
open EL (Ex RB BOk Bn TK FnG okG rEqU rNeU)
section
variable {F : Fr} {S L : Type} {δ : Dl} {wi : TI} {g : TG} {tb t1 t2 : TS} {wl : M (List U)} {δ2 δl' : L → Dl} {tt : TT} {wt : M Bool}
theorem blk_forL (dr vs : List Nat) (δl : S → Dl) {f : U → S → M (Out S S)} {s0 : S} (h0 : wipD δ dr = δl s0) (hs : Src F wi δ wl)
    (hb : ∀ s u st r, f u s st = some r → ∃ δ', TgOk F g vs (δl s) u δ' ∧ Blk F tb δ' (f u s) δl δl) : Blk F (tFor wi g tb) δ (.bind wl fun us => forO f us s0) δl δ2 :=
  blk_for (vs := vs) hs (h0 ▸ weak_wip δ dr) fun u s => hb s u
theorem blk_whileL (dr : List Nat) (δl : S → Dl) {tc : TT} {c : S → M Bool} {b : S → M (Out S S)} {s0 : S} (h0 : wipD δ dr = δl s0) (hc : ∀ s, EvT F tc (δl s) (c s))
    (hb : ∀ s, Blk F tb (δl s) (b s) δl δl) : Blk F (tWhile tc tb) δ (whileO c b s0) δl δ2 :=
  blk_while (h0 ▸ weak_wip δ dr) hc hb
theorem blk_ifL (δn : S → Dl) {wo wu : M (Out S L)} (h : EvT F tt δ wt) (h1 : Blk F t1 δ wo δn δl') (h2 : Blk F t2 δ wu δn δl') : Blk F (tIfS tt t1 t2) δ (iteW wt wo wu) δn δl' := blk_if h h1 h2
end
end UX
namespace UX
open PySem PySem.Spec PyProof.Rows L2
section
variable {P : Program} {w : World} {A : Around} {E : Value → Shared → Prop} {s : Shared}
end
end UX
namespace UX
open PySem PySem.Spec PyProof.Rows L2
open EL (Ex RB BOk Bn TK)
def B0 : Int := 1099511627776
def intsL : List U → Option (List Int)
  | [] => some []
  | .int i :: r => (intsL r).map (i :: ·)
  | _ => none
def tupI (ns : List Int) : U := .tup (ns.map .int)
def RowsOk (d : Nat) (L : List (List Int)) : Prop := 1 ≤ d ∧ L.length < 64 ∧ ∀ ns ∈ L, ns.length = d ∧ TS.Bd B0 ns
instance (d : Nat) (L : List (List Int)) : Decidable (RowsOk d L) := by unfold RowsOk TS.Bd; infer_instance
def ddp : List (List Int) → List (List Int)
  | [] => []
  | x :: r => if x ∈ ddp r then ddp r else x :: ddp r
section
variable {G : Cxt} {rs : List Addr} {B : Bn} {H H' : Hp}
theorem im_ints : ∀ {ns : List Int}, imAll G rs B (ns.map U.int) (ns.map V.int) H
  | [] => rfl
  | n :: ns => ⟨.int n, ns.map V.int, rfl, rfl, im_ints⟩
end
section
variable {F : Fr}
end
section
variable {fa : List He.Fa} {fn : List He.DefD} {ts : List He.Tab} {vs : List Vls} {w : World} {K : PySem.W.Frag}
theorem SaysU.t (c : SaysU fa fn ts vs w K) : He.SaysT fa fn ts w K := congrArg (fun z : AlU => z.1) c
theorem SaysU.d (c : SaysU fa fn ts vs w K) : He.SaysD fa fn K := c.t.d
theorem SaysU.val (c : SaysU fa fn ts vs w K) (i : Nat) {q : Vls} (h : vs[i]? = some q) : He.valsB K (q.1 K) q.2 = true :=
  List.all_eq_true.mp (show (vs.all fun q => He.valsB K (q.1 K) q.2) = true from congrArg (fun z : AlU => z.2) c) q (List.mem_of_getElem? h)
end
theorem allN {α : Type} {P : α → Prop} : ∀ c ∈ ([] : List α), P c := fun _ m => nomatch m
theorem allC {α : Type} {P : α → Prop} {a : α} {l : List α} (h : P a) (k : ∀ c ∈ l, P c) : ∀ c ∈ a :: l, P c := fun c m => (List.mem_cons.mp m).elim (fun e => e ▸ h) (k c)
theorem sp_law {K : PySem.W.Frag} {at_ : Str → Addr} {f : U → M U} (hf : ∀ ns : List Int, ns.length ≤ 63 → ∃ st', f (.frl (ns.map .int)) [] = some (.ok (.bl true), st')) {H : Hp} {a : Addr} {ns : List Int} (hl : ns.length ≤ 63) (hS : SqL K H a (ns.map V.int)) :
    spM ⟨K, at_⟩ (L1 f) [.ref a] H (fun v _ => v = .bl true) fun _ _ _ => False := by
  obtain ⟨st', e⟩ := hf ns hl
  exact ⟨fun _ => False, [], [], [.frl (ns.map .int)], .bl true, st', fun a b => (by rcases b with b | b | b; exact b.elim; cases b; cases b), List.nodup_nil, (fun _ _ z => z), trivial, ⟨.ref a, [], rfl, ⟨a, ns.map V.int, rfl, FrL.of (fun b => by rcases b with b | b | b; exact b; cases b; cases b) hS, im_ints⟩, rfl⟩, e, fun as' v H' r => r.im⟩
end UX
namespace UY
open PySem PySem.Spec PyProof.Rows L2
open UX (getElem?_lt)
section
theorem en_new {v : Value} {ob : Obj} {G : Heap → Prop} (B : Begins v ob G) :
    Meets (Builtin.«enumerate.__new__» ⟨[.type "enumerate", v], []⟩) (fun _ R s => G s.heap ∧
      R (.ok (.ret (.ref (s.heap.push ob).objs.size))) { s with heap := (s.heap.push ob).push { cls := .type "enumerate", data := .fields #[.none, .bool false, .ref s.heap.objs.size, rawInt 0, .none, .none] } }) :=
  .of_wp fun prog w A R s h => by
    obtain ⟨hp, g, d, tk, os⟩ := s
    obtain ⟨g1, h⟩ := h
    have hsb := sub_enumerate
    have it1 : ∀ {A' : Around} {E : Value → Shared → Prop} {Q : Value → Shared → Prop}, Q (.ref hp.objs.size) ⟨hp.push ob, g, d, tk, os⟩ → wpAny (model prog w) A' (pyIter v) Q E ⟨hp, g, d, tk, os⟩ :=
      fun z => B.iter prog w _ _ ⟨hp, g, d, tk, os⟩ _ g1 z
    wp_walk using it1
    refine wpAny_stack_any fun sk => wpAny_pure ?_
    split
    · rename_i c _ _ _ _ _
      cases (c == Value.type "enumerate") <;> (wp_walk using it1; exact ⟨_, rfl, h⟩)
    · wp_walk using it1
      exact ⟨_, rfl, h⟩
variable {prog : Program} {w : World} {A : Around} {E : Value → Shared → Prop} {s : Shared}
theorem en_call {v : Value} {ob : Obj} {G : Heap → Prop} {Q : Value → Shared → Prop} (B : Begins v ob G) (g1 : G s.heap)
    (k : ∀ hp, IsEnum hp (s.heap.objs.size + 1) s.heap.objs.size 0 .none → hp.get? s.heap.objs.size = some ob → hp.objs.size = s.heap.objs.size + 2 → (∀ b u, s.heap.get? b = some u → hp.get? b = some u) → Q (.ref (s.heap.objs.size + 1)) { s with heap := hp }) :
    wpAny (model prog w) A (call (.type "enumerate") [v]) Q E s := by
  have sz : (s.heap.push ob).objs.size = s.heap.objs.size + 1 := Heap.size_push ..
  refine callType_new F.called_enumerate (by decide) (F.typeCall_enumerate_1 _) (F.newCall_enumerate_1 _) (fun x => F.args_object_init_2 x _) F.entry_enumerate_new (en_new B) ⟨g1, ?_⟩
  have z := Heap.get?_push_size (s.heap.push ob) (o := { cls := .type "enumerate", data := .fields #[.none, .bool false, .ref s.heap.objs.size, rawInt 0, .none, .none] }) rfl
  rw [sz] at z
  show _ ∧ _
  rw [sz]
  exact ⟨⟨_, z, rfl⟩, k _ z (Heap.get?_push_of_some _ (Heap.get?_push_size _ B.free)) (by rw [Heap.size_push, sz]) fun b u q => Heap.get?_push_of_some _ (Heap.get?_push_of_some _ q)⟩
end
def ItE (K : PySem.W.Frag) (a : Addr) : It := ⟨fun i H => ∃ (xs : List V) (x : V), SqT K H a xs ∧ xs[i]? = some x, fun i H v H' => ∃ T x, v = .ref T ∧ H T = none ∧ H' = upd H T (.tup [.int (i : Nat), x]) ∧ (∀ xs, SqT K H a xs → xs[i]? = some x), fun i H => ∃ xs : List V, SqT K H a xs ∧ xs.length = i⟩
theorem turn_en {P : Program} {w : World} {K : PySem.W.Frag} {elts : List Expr} {kk : Nat} {tpos : Pos} {a e it : Addr} (n1 : e ≠ it) (n2 : e ≠ a) (n3 : a ≠ it) :
    Turn P w K (.Tuple elts kk tpos) (ItE K a) [e, it] e (fun i h => (∃ old, IsEnum h e it ((i : Nat) : Int) old) ∧ h.IsTupleIter it a i) where
  mem := by simp
  obj := fun i h st b hb => by
    obtain ⟨⟨old, he⟩, ⟨o, ho, hc, hd⟩⟩ := st
    rcases (show b = e ∨ b = it by simpa using hb) with rfl | rfl
    · exact ⟨_, he, fun v q => nomatch q⟩
    · exact ⟨o, ho, fun v q => by rw [hd] at q; cases q⟩
  keep := fun i h h' st k => by
    obtain ⟨⟨old, he⟩, hi⟩ := st
    exact ⟨⟨old, k e (by simp) _ he⟩, hi.at fun o q => k it (by simp) o q⟩
  item := by
    intro X hP hw hK hc i pins s σ H E I hf st hg
    subst hP hw hK
    obtain ⟨⟨old, he⟩, hi⟩ := st
    obtain ⟨xs, x, hq, hx⟩ := hg
    obtain ⟨its, rv, p, hz⟩ := I.tuple hq
    obtain ⟨u, hu, ru⟩ := rv.get hx
    have le : e < s.heap.objs.size := Heap.lt_size he
    have li : it < s.heap.objs.size := by obtain ⟨_, q, _⟩ := hi; exact Heap.lt_size q
    have hlt : i < its.toArray.size := by
      have := getElem?_lt hu
      simpa using this
    refine wpAny_pyNext_enum_itemC (Draws.tuple (A := X.A.in1) (show X.A.in1.handled = none from I.ok.hd hc) it a n3 its.toArray) he (i := i) ⟨hi, p⟩ hlt n1 (by simp [n1, n2]) fun y hp tk hy ho hs hT hsz hk => ?_
    have ey : y = u := by
      have h1 : its[i]? = some y := by simpa using hy
      rw [hu] at h1
      exact (Option.some.inj h1).symm
    subst ey
    refine ⟨_, rfl, wpAny_letOwnedTupleGo_enum (s := { s with heap := hp, toks := tk + 1 }) ho fun hp' he' sb => ?_⟩
    have hT2 : hp'.get? s.heap.objs.size = some { cls := .type "tuple", data := .seq #[.int i tk, y] } := (sb.2 _ (Nat.ne_of_gt le)).trans hT
    have new : ObjOk X.prog X.w (upd H s.heap.objs.size (.tup [.int (i : Nat), x])) hp' s.heap.objs.size (.tup [.int (i : Nat), x]) := by
      refine ⟨?_, [.int i tk, y], .cons ⟨_, rfl⟩ (.cons ru .nil), ⟨_, hT2, rfl, _, rfl⟩⟩
      show 2 ≤ sizeLine
      decide
    have J := I.turnedNew (t' := tk + 1) (ch := [e, it]) (h' := hp') (fun b ob hb q => by
      have n := (show b ≠ e ∧ b ≠ it by simpa using hb)
      exact (sb.2 b n.1).trans (hk b ob n.1 n.2 q)) hf (Nat.le_refl _) new
    refine ⟨.ref s.heap.objs.size, _, J, rfl, ⟨_, x, rfl, I.hok.fresh (Nat.le_refl _), rfl, fun ys hy => by rw [I.tuple_inj hy hq]; exact hx⟩, ⟨⟨y, ?_⟩, hs.1.at fun o q => (sb.2 it n1.symm).trans q⟩, fun b hb => ?_⟩
    · rw [show ((i + 1 : Nat) : Int) = (i : Int) + 1 by omega]; exact he'
    · have lb : b < s.heap.objs.size := by rcases (show b = e ∨ b = it by simpa using hb) with rfl | rfl <;> assumption
      rw [upd_ne (Nat.ne_of_lt lb)]
      exact (hf b hb).1
  done := by
    intro X hP hw hK hc i pins s σ H E I hf st hg
    subst hP hw hK
    obtain ⟨⟨old, he⟩, hi⟩ := st
    obtain ⟨xs, hq, hx⟩ := hg
    obtain ⟨its, rv, p, hz⟩ := I.tuple hq
    obtain ⟨f0, f1, f2, f3, f4, f5⟩ := hf it (by simp)
    have hl : its.toArray.size = i := by
      have := rv.length
      simp
      omega
    refine wpAny_pyNext_enum_endD (Draws.tuple (A := X.A.in1) (show X.A.in1.handled = none from I.ok.hd hc) it a n3 its.toArray) he ⟨by rw [hl]; exact hi, p⟩ fun hp eb => ⟨rfl, I.turned (t' := s.toks) (fun b o hb q => eb b o hb q) f0 f1 f3 f4 f5⟩
  self := fun A i s Q E st h => let ⟨⟨_, he⟩, _⟩ := st; wpAny_pyIter_enum he h
def iEnT (K : PySem.W.Frag) (ta : TA) : TI := fun σ H R => ta σ H fun vs H1 => ∃ a xs, vs = [.ref a] ∧ SqT K H1 a xs ∧ R (ItE K a) H1
theorem pi_enT {X : Cx} {x : Expr} {ta : TA} {p pos tpos : Pos} {elts : List Expr} {kk : Nat} (hg : Gl X "enumerate") (hm : X.mg "enumerate" = none) (ha : PA X [x] ta) (hs : starEach [x] X.env = [(false, eval x X.env)] := by rfl) :
    PI X (.Tuple elts kk tpos) (.Call (.Name "enumerate" p) [x] [] pos) (iEnT X.K ta) := ⟨fun pins s σ H R I h => by
  refine Call_ (ld_blt I hg hm boot_enumerate (PyProof.Rows.callWith_type1 (thn (ha.run pos pins s σ H _ I h) fun us s1 ⟨vs, H1, I1, r1, a, xs, ex, hq, q⟩ => ?_) hs rfl))
  subst ex
  cases r1 with
  | cons r rr =>
    cases rr
    cases r
    obtain ⟨its, rv, p', hz⟩ := I1.tuple hq
    have la : a < s1.heap.objs.size := by obtain ⟨_, z, _⟩ := p'; exact Heap.lt_size z
    refine en_call (begins_tuple a its.toArray) p' fun hp he hi hsz hk => wpAny_pyIter_enum he ?_
    have I2 : Inv X pins σ H1 { s1 with heap := hp } := I1.kept (t' := s1.toks) hk
    refine ⟨s1.heap.objs.size + 1, [s1.heap.objs.size + 1, s1.heap.objs.size], _, _, H1, rfl, I2, turn_en (a := a) (Nat.succ_ne_self _) (Nat.ne_of_gt (Nat.lt_succ_of_lt la)) (Nat.ne_of_lt la), ⟨⟨.none, he⟩, ⟨_, hi, rfl, rfl⟩⟩, fun b hb => ?_, q⟩
    have hle : s1.heap.objs.size ≤ b := by rcases (show b = s1.heap.objs.size + 1 ∨ b = s1.heap.objs.size by simpa using hb) with rfl | rfl <;> omega
    exact I1.fpOk hle (I1.hok.fresh hle)⟩
end UY
namespace UY
open PySem PySem.Spec PyProof.Rows L2
def AddI (w : World) (D : Addr) (y : V) (H : Hp) (Nx : Hp → Prop) : Prop := ∃ (k : Int) (S : Int → Bool) (n : Nat), y = .int k ∧ H D = some (SetO w D S n) ∧ n + 1 < scanBound ∧ Nx (upd H D (SetO w D (fun j => S j || decide (j = k)) (if S k = true then n else n + 1)))
def tSci (w : World) (wi : TI) (g : TG) (tt : TT) (te : TE) (vs : List Nat) : TE := fun σ H Q => wi σ H fun J H1 => ∀ D, H1 D = none → ∃ W : Nat → Nat → Hp → Prop, (∃ m, W 0 m (upd H1 D (SetO w D (fun _ => false) 0))) ∧
  ∀ i m Hc, W i m Hc → (J.stop i Hc ∧ Q (.ref D) Hc) ∨ (J.go i Hc ∧ ∃ Nx : Hp → Prop, (∀ H', Nx H' → ∃ m', m' < m ∧ W (i + 1) m' H') ∧
    ∀ x H', J.yld i Hc x H' → g x (wipe σ vs) H' fun σ2 H2 => wipe σ2 vs = wipe σ vs ∧ tt σ2 H2 fun b H3 => if b = true then te σ2 H3 fun y H4 => AddI w D y H4 Nx else Nx H3)
section
variable {X : Cx}
theorem pe_sci {elt tg iter : Expr} {ifs : List Expr} {scope : Scope} {own : List (PySem.Str × Nat)} {pos : Pos} {wi : TI} {g : TG} {tt : TT} {te : TE} (hc : X.calm = true) (hN : X.N.Nodup) (hi : PI X tg iter wi)
    (ok : BlkOk X.N X.env.scope scope own) (hg : ∀ (z : Shared) (Hz : Hp) (C : Addr) (cl : List (PySem.Str × Addr)) (fp : List Addr), PG (X.blk z Hz scope (compEnvC scope cl C X.env) fp) tg g)
    (ht : ∀ (z : Shared) (Hz : Hp) (C : Addr) (cl : List (PySem.Str × Addr)) (fp : List Addr), PTs (X.blk z Hz scope (compEnvC scope cl C X.env) fp) ifs tt)
    (he : ∀ (z : Shared) (Hz : Hp) (C : Addr) (cl : List (PySem.Str × Addr)) (fp : List Addr), PE (X.blk z Hz scope (compEnvC scope cl C X.env) fp) elt te)
    (hs : ∀ x, foldedSetIterable iter X.env x = pure x := by intro _; rfl) : PE X (.SetComp elt [⟨tg, iter, ifs, 0⟩] scope pos) (tSci X.w wi g tt te (own.map (·.2))) := ⟨fun pins s σ H Q I h => by
  rw [PpSet.eval_SetComp]
  have fr : ∀ y ∈ scope.names, y.2 = .free → ∃ c, X.env.cells.lookup y.1 = some c := fun y m e => (ok.free y m e).elim (fun k => I.ok.has _ (.inl k)) fun k => I.ok.has _ (.inr k)
  refine wpAny_comprehension_free rfl hs (closure_ok fr) ok.kind (fun y m e => by rw [ok.uniq y m, e]) (thn (hi.run pins s σ H _ I h) fun xv s1 hx => thn hx fun itv s2 ⟨it, fp, tn, J, H2, ei, I2, T, t2, f2, q⟩ => ?_)
  subst ei
  refine PpSet.newSet_ok (newEnv_comp ?_)
  generalize eD : s2.heap.objs.size = D
  have nD : H2 D = none := I2.hok.fresh (Nat.le_of_eq eD)
  obtain ⟨W, ⟨m0, w0⟩, turn⟩ := q D nD
  -- the new set stands
  let nob : Obj := { cls := .type "set", dict := none, data := .set #[] 0 (.fresh 0 0 (!X.w.params.followText "set-order")) }
  generalize e3 : ({ s2 with heap := s2.heap.push nob } : Shared) = s3
  have p3 : s3.heap = s2.heap.push nob := by rw [← e3]
  have I3 : Inv X pins σ (upd H2 D (SetO X.w D (fun _ => false) 0)) s3 := by
    rw [← e3]
    exact I2.laid (t' := s2.toks) (fun b o z => Heap.get?_push_of_some _ z) (Nat.le_of_eq eD) (eD ▸ setO_new (setR_fresh X.w))
  have lt2 : ∀ b ∈ fp, b < s2.heap.objs.size := fun b m => by obtain ⟨o, z, _⟩ := T.obj _ _ t2 b m; exact Heap.lt_size z
  have f3 : ∀ b ∈ fp, FpOk X pins (upd H2 D (SetO X.w D (fun _ => false) 0)) b ∧ b < s3.heap.objs.size := fun b m =>
    ⟨⟨by rw [upd_ne (by rw [← eD]; exact Nat.ne_of_lt (lt2 b m))]; exact (f2 b m).1, (f2 b m).2⟩, by rw [p3, Heap.size_push]; exact Nat.lt_succ_of_lt (lt2 b m)⟩
  have t3 : tn 0 s3.heap := T.keep _ _ _ t2 fun b _ o z => by rw [p3]; exact Heap.get?_push_of_some _ z
  have I4 := block_start I3 ok hN f3
  show codeAny _ _ (.compStart (.SetComp elt [⟨tg, iter, ifs, 0⟩] scope pos) 0 (.ref it) (.ref D) (compEnvC scope (cellsFrom (s3.heap.objs.size + 1) scope.names (cloFrom X.env.cells scope.names [])) s3.heap.objs.size X.env)) (compPost (model X.prog X.w) X.A X.xe _ _ (.ref D) s3.heap.objs.size) { s3 with heap := pushCells (s3.heap.push { cls := .type "dict", data := .dict #[] }) scope.names }
  generalize eC : cellsFrom (s3.heap.objs.size + 1) scope.names (cloFrom X.env.cells scope.names []) = cl at I4 ⊢
  have G := hg s3 (upd H2 D (SetO X.w D (fun _ => false) 0)) s3.heap.objs.size cl fp
  have TT' := ht s3 (upd H2 D (SetO X.w D (fun _ => false) 0)) s3.heap.objs.size cl fp
  have EE := he s3 (upd H2 D (SetO X.w D (fun _ => false) 0)) s3.heap.objs.size cl fp
  generalize ece : compEnvC scope cl s3.heap.objs.size X.env = ce at I4 G TT' EE ⊢
  have cl0 : ce.locals = s3.heap.objs.size := by subst ece; rfl
  have n3 : ∀ b ∈ fp, (upd H2 D (SetO X.w D (fun _ => false) 0)) b = none := fun b m => (f3 b m).1.1
  generalize eH : upd H2 D (SetO X.w D (fun _ => false) 0) = H3 at I3 I4 G TT' EE w0 n3 f3
  generalize e4 : ({ s3 with heap := pushCells (s3.heap.push { cls := .type "dict", data := .dict #[] }) scope.names } : Shared) = s4 at I4 ⊢
  have t4 : tn 0 s4.heap := T.keep _ _ _ t3 fun b _ o z => by rw [← e4]; exact pushCells_keeps _ _ _ _ (Heap.get?_push_of_some _ z)
  have fpo : ∀ {σ' : L2.St} {H' : Hp} {s' : Shared}, Inv (X.blk s3 H3 scope ce fp) [] σ' H' s' → (∀ b ∈ fp, H' b = none) → ∀ b ∈ fp, FpOk (X.blk s3 H3 scope ce fp) [] H' b := fun {_ _ _} J' n b m =>
    ⟨n b m, (J'.ok.exf b m).1, J'.ok.exfs b m, .inl m, fun x c z => (J'.ok.exf b m).2 x c z, fun p hp => absurd (show p ∈ ([] : List (Addr × Obj)) ++ [] from hp) (by simp)⟩
  have body : codeAny (model X.prog X.w) X.A (.compLoop (.SetComp elt [⟨tg, iter, ifs, 0⟩] scope pos) 0 (.ref it) (.ref D) ce) (compPost (model X.prog X.w) X.A X.xe none (EP X pins σ Q) (.ref D) s3.heap.objs.size) s4 := by
    refine PpSet.compLoopS_any (fun n s' => ∃ i Hc, Inv (X.blk s3 H3 scope ce fp) [] (wipe σ (own.map (·.2))) Hc s' ∧ tn i s'.heap ∧ (∀ b ∈ fp, Hc b = none) ∧ W i n Hc) ?_ m0 ⟨0, H3, I4, t4, n3, w0⟩
    rintro n s5 ⟨i, H5, I5, t5, n5, w5⟩
    rcases turn i n H5 w5 with ⟨stop, qq⟩ | ⟨go, Nx, hNx, step⟩
    · -- all are gone through
      refine thnF (T.done (X.blk s3 H3 scope ce fp) rfl rfl rfl hc i [] s5 _ H5 (fun _ _ => False) I5 (fpo I5 n5) t5 stop) fun r s6 ⟨er, I6⟩ => ?_
      subst er
      have I7 : Inv X pins σ H5 s6 := I3.call' (ch := fp) I6.os I6.base I6.hok I6.bare fun b m => ⟨(f3 b m).1.2.2.2.1, (f3 b m).1.2.1, (f3 b m).1.2.2.2.2.1, (f3 b m).1.2.2.2.2.2⟩
      have nC : H5 s3.heap.objs.size = none := cl0 ▸ (show H5 ce.locals = none from I6.free)
      obtain ⟨mm, hn, _⟩ := I6.loc
      obtain ⟨g0, g1, g2, g3, g4, g5⟩ := I3.fpOk (Nat.le_refl _) nC
      exact ⟨mm, cl0 ▸ (show s6.heap.Ns ce.locals mm from hn), fun h7 sb => ⟨.ref D, H5, I7.turned (t' := s6.toks) (fun b o hb z => (sb.2 b hb).trans z) g0 g1 g3 g4 g5, rfl, qq⟩⟩
    · -- one more
      refine thnF (T.item (X.blk s3 H3 scope ce fp) rfl rfl rfl hc i [] s5 _ H5 (fun _ _ => False) I5 (fpo I5 n5) t5 go) fun r s6 ⟨u, er, h6⟩ => ?_
      subst er
      refine thnF h6 fun _ s7 ⟨x, H7, I7, r7, y7, t7, n7⟩ => ?_
      refine thnF (G.run _ s7 _ H7 x u _ (I7.pinned (fpo I7 n7) (T.obj _ _ t7)) r7 (step x H7 y7)) fun _ s8 ⟨σ8, H8, I8, w8, q8⟩ => thnF (TT'.run _ s8 σ8 H8 _ I8 q8) fun b s9 ⟨H9, I9, q9⟩ => ?_
      have fin : ∀ {s' : Shared} {H' : Hp}, Inv (X.blk s3 H3 scope ce fp) ([] ++ pinsAt fp s7.heap) σ8 H' s' → Nx H' → ∃ m, m < n ∧ ∃ i Hc, Inv (X.blk s3 H3 scope ce fp) [] (wipe σ (own.map (·.2))) Hc s' ∧ tn i s'.heap ∧ (∀ b ∈ fp, Hc b = none) ∧ W i m Hc := fun {s' H'} J' nx => by
        obtain ⟨m', lm, w'⟩ := hNx H' nx
        have pin : ∀ b ∈ fp, ∀ o, s7.heap.get? b = some o → s'.heap.get? b = some o ∧ H' b = none := fun b m o z =>
          have y := J'.pin (b, o) (List.mem_append_right _ (List.mem_append_right _ (mem_pinsAt m z)))
          ⟨y.1, y.2.1⟩
        have ll : (wipe σ (own.map (·.2))).length = σ8.length := by rw [← w8, wipe_length]
        exact ⟨m', lm, i + 1, H', (J'.unpinned (pins := [])).weak ll (fun j v z => (wipe_some (w8 ▸ z)).1), T.keep _ _ _ t7 fun b m o z => (pin b m o z).1, fun b m => by
          obtain ⟨o, z, _⟩ := T.obj _ _ t7 b m
          exact (pin b m o z).2, w'⟩
      cases b with
      | false =>
        simp only [Bool.false_eq_true, if_false] at q9 ⊢
        exact fin I9 q9
      | true =>
        simp only [if_true] at q9 ⊢
        refine thnF (EE.run _ s9 σ8 H9 _ I9 q9) fun z s10 ⟨yv, H10, I10, r10, k, S, n0, ey, hD, room, nx⟩ => ?_
        subst ey
        refine thnF (mt_sadd (X := X.blk s3 H3 scope ce fp) _ s10 σ8 H10 (.ref D) [.int k] (.ref D) [z] (fun _ H' => Nx H') I10 rfl (.cons r10 .nil) ⟨D, k, S, n0, rfl, rfl, hD, room, nx⟩) fun _ s11 ⟨_, H11, I11, _, nx'⟩ => fin I11 nx'
  exact PpSet.codeAny_compStart_set body (T.self X.A 0 _ _ _ t4 body)⟩
end
end UY
namespace UX
open PySem PySem.Spec PyProof.Rows L2 UY
open EL (Ex RB BOk Bn TK)
def ddI (ns : List Int) : List Int := ns.foldl (fun acc k => if k ∈ acc then acc else acc ++ [k]) []
theorem ddI_snoc (ns : List Int) (k : Int) : ddI (ns ++ [k]) = if k ∈ ddI ns then ddI ns else ddI ns ++ [k] := by unfold ddI; rw [List.foldl_append]; rfl
theorem snoc_ind {α : Type} {P : List α → Prop} (h0 : P []) (h1 : ∀ l x, P l → P (l ++ [x])) : ∀ l, P l := fun l => by
  have : ∀ n (l : List α), l.length = n → P l := by
    intro n
    induction n with
    | zero => intro l e; rw [List.length_eq_zero_iff.mp e]; exact h0
    | succ n ih =>
      intro l e
      have hne : l ≠ [] := fun z => by rw [z] at e; cases e
      rw [← List.dropLast_concat_getLast hne]
      exact h1 _ _ (ih _ (by rw [List.length_dropLast, e]; rfl))
  exact this l.length l rfl
theorem mem_ddI {x : Int} : ∀ ns : List Int, x ∈ ddI ns ↔ x ∈ ns := by
  refine snoc_ind (by simp [ddI]) fun l k ih => ?_
  rw [ddI_snoc]
  split
  · rename_i h
    rw [ih, List.mem_append, List.mem_singleton]
    exact ⟨.inl, fun z => z.elim id fun e => e ▸ ih.mp (e ▸ h)⟩
  · rw [List.mem_append, List.mem_append, ih]
theorem nodup_ddI : ∀ ns : List Int, (ddI ns).Nodup := by
  refine snoc_ind (by simp [ddI]) fun l k ih => ?_
  rw [ddI_snoc]
  split
  · exact ih
  · rename_i h
    exact List.nodup_append.mpr ⟨ih, List.pairwise_singleton _ _, fun a ha b hb e => h (by rw [List.mem_singleton] at hb; rw [← hb, ← e]; exact ha)⟩
theorem ddI_mono (a : List Int) : ∀ b : List Int, (ddI a).length ≤ (ddI (a ++ b)).length := by
  refine snoc_ind (by simp) fun l k ih => ?_
  rw [← List.append_assoc, ddI_snoc]
  split
  · exact ih
  · rw [List.length_append]; omega
theorem map_int_inj1 : ∀ {a b : List Int}, a.map U.int = b.map U.int → a = b
  | [], [], _ => rfl
  | [], _ :: _, h => by simp at h
  | _ :: _, [], h => by simp at h
  | x :: a, y :: b, h => by
    rw [List.map_cons, List.map_cons, List.cons.injEq, U.int.injEq] at h
    rw [h.1, map_int_inj1 h.2]
theorem intsL_eq : ∀ {us : List U} {ns : List Int}, intsL us = some ns → us = ns.map .int
  | [], _, e => by cases e; rfl
  | u :: us, ns, e => by
    cases u <;> simp [intsL] at e
    obtain ⟨r, er, rfl⟩ := e
    rw [intsL_eq er]; rfl
theorem intsL_map : ∀ ns : List Int, intsL (ns.map .int) = some ns
  | [] => rfl
  | n :: ns => by rw [List.map_cons, intsL, intsL_map ns]; rfl
theorem tail_ints : ∀ {a ns : List Int} {b : List U}, a.map U.int ++ b = ns.map U.int → b = ((intsL b).getD []).map U.int
  | [], ns, b, h => by rw [show b = ns.map U.int from h, intsL_map]; rfl
  | x :: a, [], b, h => by simp at h
  | x :: a, n :: ns, b, h => tail_ints (a := a) (ns := ns) (by simp at h; simpa using h.2)
section
variable {F : Fr} {os : Os} {as as' : SA} {st st' : Sto} {γ : List (U × V)} {H H' : Hp} {σ : L2.St} {δ : Dl}
structure SS (w : World) (F : Fr) (os : Os) (k0 : Nat) (D : Addr) (as : SA) (st : Sto) (γ : List (U × V)) (H : Hp) (σ : L2.St) (δ : Dl) (ns : List Int) : Prop where
  S : SDo F ((k0, [D]) :: os) as st γ H σ δ
  a : H D = some (SetO w D (fun j => decide (j ∈ ns)) (ddI ns).length)
variable {k0 : Nat} {D : Addr} {ns : List Int} {w : World}
theorem SS.go (l : SS w F os k0 D as st γ H σ δ ns) {σ' : L2.St} {δ' : Dl} (g : Go as as' H H') (S : SDo F ((k0, [D]) :: os) as' st' γ H' σ' δ') : SS w F os k0 D as' st' γ H' σ' δ' ns :=
  ⟨S, g.rb.keep _ _ (fun m => (List.nodup_append.mp l.S.nd).2.2 D (List.mem_append_left _ List.mem_cons_self) D m rfl) l.a⟩
theorem SS.push (l : SS w F os k0 D as st γ H σ δ ns) (hk : δ.length ≤ k0) (k : Int) (hz : (ddI ns).length + 1 < scanBound) {Nx : Hp → Prop} (hN : ∀ H', SS w F os k0 D as st γ H' σ δ (ns ++ [k]) → (∀ b, b ≠ D → H' b = H b) → H' D ≠ none → Nx H') : AddI w D (.int k) H Nx := by
  refine ⟨k, _, _, rfl, l.a, hz, ?_⟩
  have e1 : (fun j => decide (j ∈ ns) || decide (j = k)) = fun j => decide (j ∈ ns ++ [k]) := by
    funext j
    rw [Bool.eq_iff_iff]
    simp
  have e2 : (if decide (k ∈ ns) = true then (ddI ns).length else (ddI ns).length + 1) = (ddI (ns ++ [k])).length := by
    rw [ddI_snoc]
    by_cases h : k ∈ ns
    · rw [decide_eq_true h, if_pos rfl, if_pos ((mem_ddI ns).mpr h)]
    · rw [decide_eq_false h, if_neg (by simp), if_neg (fun z => h ((mem_ddI ns).mp z)), List.length_append]; rfl
  rw [e1, e2]
  have c : Chg F ((k0, [D]) :: os) as H (upd H D (SetO w D (fun j => decide (j ∈ ns ++ [k])) (ddI (ns ++ [k])).length)) k0 [D] [D] D := chg_same List.mem_cons_self List.mem_cons_self l.S l.a (fun _ z => nomatch z) (fun _ _ z => nomatch z)
  have S := l.S.mut c (x := none) (fun _ z => nomatch z)
  rw [setOs_same l.S.ix List.mem_cons_self] at S
  rw [List.set_eq_of_length_le hk] at S
  exact hN _ ⟨S, upd_same⟩ (fun b n => upd_ne n) (by rw [upd_same]; exact fun z => nomatch z)
end
section
variable {F : Fr} {δ : Dl} {wi wi1 : TI} {g g1 : TG} {tt tt1 : TT} {te : TE} {vs vs1 : List Nat} {wl : M (List U)} {w : World}
end
end UX
namespace UY
open PySem PySem.Spec PyProof.Rows L2 UX
section
variable {P : Program} {w : World} {A : Around} {E : Value → Shared → Prop} {s : Shared}
end
end UY
namespace UX
open PySem PySem.Spec PyProof.Rows L2 UY
open EL (Ex RB BOk Bn TK)
section
variable {F : Fr} {δ : Dl} {w : World}
def tupRW (w : M (List U)) : M U := .bind w fun us => .o (if us.length ≤ sizeLine then some (.tup us) else none)
def lstRW (w : M (List U)) : M U := .bind w fun us => .o (if us.length ≤ sizeLine then some (.lst us) else none)
def enumL (us : List U) : List U := (List.range us.length).zipWith (fun i u => U.tup [.int (i : Nat), u]) us
def enumU : U → Option (List U)
  | .tup us => some (enumL us)
  | .lst us => some (enumL us)
  | _ => none
def enumW (w : M U) : M (List U) := .bind w fun u => .o (enumU u)
def iEnA (K : PySem.W.Frag) (ta : TA) : TI := fun σ H R => iEnum K ta σ H R ∨ iEnT K ta σ H R
end
theorem pi_or {X : Cx} {tg e : Expr} {w w' : TI} (h : PI X tg e w) (h' : PI X tg e w') : PI X tg e (fun σ H R => w σ H R ∨ w' σ H R) := ⟨fun pins s σ H R I z => z.elim (fun z => h.run pins s σ H R I z) fun z => h'.run pins s σ H R I z⟩
theorem pi_enAK {X : Cx} (K : PySem.W.Frag) {e : Expr} {ta : TA} {p pos tpos : Pos} {elts : List Expr} {kk : Nat} (hg : Gl X "enumerate") (hm : X.mg "enumerate" = none) (ha : PA X [e] ta) (hs : starEach [e] X.env = [(false, eval e X.env)] := by rfl) (hK : X.K = K := by rfl) :
    PI X (.Tuple elts kk tpos) (.Call (.Name "enumerate" p) [e] [] pos) (iEnA K ta) := hK ▸ pi_or (pi_enum hg hm ha hs) (pi_enT hg hm ha hs)
theorem enumL_len (us : List U) : (enumL us).length = us.length := by unfold enumL; rw [List.length_zipWith, List.length_range, Nat.min_self]
theorem enumL_get {us : List U} {i : Nat} {u : U} (h : (enumL us)[i]? = some u) : ∃ x, us[i]? = some x ∧ u = .tup [.int (i : Nat), x] := by
  have hi : i < us.length := by have := getElem?_lt h; rwa [enumL_len] at this
  unfold enumL at h
  rw [List.getElem?_zipWith, List.getElem?_range hi, List.getElem?_eq_getElem hi] at h
  cases h
  exact ⟨_, List.getElem?_eq_getElem hi, rfl⟩
section
variable {F : Fr} {δ : Dl} {ta : TE} {wa : M U}
theorem src_enum (ha : EvW F ta δ wa) : Src F (iEnA F.G.K (tCons ta tNil)) δ (enumW wa) := fun os as st γ σ H us st' S q Q k => by
  obtain ⟨u, st1, qu, q⟩ := M.bind_inv q
  obtain ⟨e, rfl⟩ := M.o_inv q
  cases u <;> simp [enumU] at e
  · subst e
    refine .inr (ha os as st γ σ H _ _ S qu _ fun v H1 as1 g1 S1 p1 => ?_)
    have S1' := S1.ghost (g := [(_, v)]) fun z m => by rw [List.mem_singleton] at m; rw [m]; exact p1
    obtain ⟨a, vs, rfl, hs, hv⟩ := id p1
    refine ⟨a, vs, rfl, EL.sqT_of hs, k _ H1 as1 _ g1 S1' ⟨fun i os as st γ σ δ H hi S2 => ?_, fun os as st γ σ δ H S2 => ?_, fun i os as st γ σ δ x H H' z e S2 y => ?_⟩⟩ <;> obtain ⟨a2, vs2, ev2, ht, hv2⟩ := S2.gh _ List.mem_cons_self <;> cases ev2
    · rw [enumL_len] at hi
      have h1 : i < vs2.length := by rw [imAll_len hv2]; omega
      exact ⟨vs2, vs2[i], EL.sqT_of ht, List.getElem?_eq_getElem h1⟩
    · exact ⟨vs2, EL.sqT_of ht, by rw [enumL_len, imAll_len hv2]⟩
    · obtain ⟨T, x1, rfl, hT, rfl, f1⟩ := y
      obtain ⟨c, e1, rfl⟩ := enumL_get e
      obtain ⟨y1, e3, p3⟩ := imAll_get hv2 e1
      rw [f1 _ (EL.sqT_of ht)] at e3
      cases e3
      exact ⟨Ex.new hT, zip_pair hT rfl p3⟩
  · subst e
    refine .inl (ha os as st γ σ H _ _ S qu _ fun v H1 as1 g1 S1 p1 => ?_)
    have S1' := S1.ghost (g := [(_, v)]) fun z m => by rw [List.mem_singleton] at m; rw [m]; exact p1
    obtain ⟨a, vs, rfl, nb, hs, hv⟩ := id p1
    refine ⟨a, vs, rfl, EL.sqL_of hs, k _ H1 as1 _ g1 S1' ⟨fun i os as st γ σ δ H hi S2 => ?_, fun os as st γ σ δ H S2 => ?_, fun i os as st γ σ δ x H H' z e S2 y => ?_⟩⟩ <;> obtain ⟨a2, vs2, ev2, n2, ht, hv2⟩ := S2.gh _ List.mem_cons_self <;> cases ev2
    · rw [enumL_len] at hi
      have h1 : i < vs2.length := by rw [imAll_len hv2]; omega
      exact ⟨vs2, vs2[i], EL.sqL_of ht, List.getElem?_eq_getElem h1⟩
    · exact ⟨vs2, EL.sqL_of ht, by rw [enumL_len, imAll_len hv2]; exact Nat.le_refl _⟩
    · obtain ⟨T, x1, rfl, hT, rfl, f1⟩ := y
      obtain ⟨c, e1, rfl⟩ := enumL_get e
      obtain ⟨y1, e3, p3⟩ := imAll_get hv2 e1
      rw [f1 _ (EL.sqL_of ht)] at e3
      cases e3
      exact ⟨Ex.new hT, zip_pair hT rfl p3⟩
end
def putU (d k v : U) : Option U := match d with
  | .dct ks us => if ks.length < sizeLine then match keyU k with
    | some k => match idxK k ks with
      | some j => if ks.Nodup then some (.dct ks (us.set j v)) else none
      | none => some (.dct (ks ++ [k]) (us ++ [v]))
    | none => none else none
  | .dcT ks us => if ks.length < sizeLine then match tkeyU k with
    | some k => match idxK k ks with
      | some j => if ks.Nodup then some (.dcT ks (us.set j v)) else none
      | none => some (.dcT (ks ++ [k]) (us ++ [v]))
    | none => none else none
  | _ => none
section
variable {κ : Type} [DecidableEq κ]
theorem idx_any {k : κ} : ∀ {ks : List κ} {vs : List V} {j : Nat}, ks.length = vs.length → idxK k ks = some j → ((ks.zip vs).any fun kv => decide (kv.1 = k)) = true
  | [], _, _, _, e => by cases e
  | x :: ks, [], _, l, _ => by cases l
  | x :: ks, v :: vs, j, l, e => by
    unfold idxK at e
    by_cases z : x = k
    · simp [z]
    · rw [if_neg z] at e
      obtain ⟨j', e', rfl⟩ := Option.map_eq_some_iff.mp e
      rw [List.zip_cons_cons, List.any_cons, idx_any (by simpa using l) e', Bool.or_true]
theorem putK_at {k : κ} {y : V} {ks : List κ} {vs : List V} {j : Nat} (l : ks.length = vs.length) (nd : ks.Nodup) (e : idxK k ks = some j) : putK (ks.zip vs) k y = ks.zip (vs.set j y) := by
  unfold putK
  rw [if_pos (idx_any l e)]
  exact putK_set l nd e
end
section
variable {F : Fr} {S L : Type} {δ : Dl} {δn : S → Dl} {δl : L → Dl} {t2 : TS} {i : Nat}
theorem im_tkey {G : Cxt} {rs : List Addr} {B : Bn} {H : Hp} {u : U} {v : V} {k : List Key} (e : tkeyU u = some k) (h : im G rs B u v H) : ∃ b, v = .ref b ∧ H b = some (.tup (k.map kV)) := by
  cases u <;> simp [tkeyU] at e
  obtain ⟨b, vs, rfl, hb, hv⟩ := h
  rw [im_keys e hv] at hb
  exact ⟨b, rfl, hb⟩
theorem put_zip {κ : Type} [DecidableEq κ] {ks ks' : List κ} {us us' : List U} {key : κ} {x : U} {vs : List V} {v : V} {G : Cxt} {rs : List Addr} {B : Bn} {H : Hp} (l : ks.length = us.length) (hv : imAll G rs B us vs H) (hx : im G rs B x v H)
    (e : (match idxK key ks with | some j => if ks.Nodup then some (ks, us.set j x) else none | none => some (ks ++ [key], us ++ [x])) = some (ks', us')) : ∃ vs', putK (ks.zip vs) key v = ks'.zip vs' ∧ ks'.length = us'.length ∧ imAll G rs B us' vs' H := by
  have ll : ks.length = vs.length := by rw [l, imAll_len hv]
  cases ei : idxK key ks with
  | some j =>
    rw [ei] at e
    simp only at e
    split at e
    · rename_i nd
      cases e
      exact ⟨vs.set j v, putK_at ll nd ei, by rw [List.length_set, l], imAll_set hv hx⟩
    · cases e
  | none =>
    rw [ei] at e
    cases e
    exact ⟨vs ++ [v], putK_zip ll ei, by simp [l], imAll_snoc hv hx⟩
theorem SDo.redo {os : Os} {as : SA} {st : Sto} {γ : List (U × V)} {σ : L2.St} {H : Hp} {d' : U} {a : Addr} {o o' : HO} (Q : SDo F os as st γ H σ δ) (m : (i, [a]) ∈ os) (e0 : σ[i]? = some (some (.ref a))) (e3 : H a = some o) (nt : ∀ xs, o ≠ .tup xs) (nf : ∀ y u, o ≠ .frz y u)
    (hn : (∀ {us : List U} {vs : List V}, imAll F.G (rts as) (ban F os as) us vs H → imAll F.G (rts as) (ban F os as) us vs (upd H a o')) → ownD F.G (rts as) (ban F os as) (.dct .leaf) d' (.ref a) (upd H a o') [a]) : SDo F os as st γ (upd H a o') σ (δ.set i (some (.own (.dct .leaf) d'))) := by
  have so := setOs_same Q.ix m
  have c : Chg F os as H (upd H a o') i [a] [a] a := chg_same m List.mem_cons_self Q e3 nt nf
  have := Q.mut c (x := some (.own (.dct .leaf) d')) fun s es => by
    cases es
    refine ⟨_, _, .ref a, rfl, e0, ?_⟩
    rw [so]
    exact hn fun h => by have := c.imAll h; rw [so] at this; exact this
  rw [so] at this
  exact this
theorem SDo.put {os : Os} {as : SA} {st : Sto} {γ : List (U × V)} {σ : L2.St} {H : Hp} {d k x d' : U} {y v : V} (Q : SDo F os as st γ H σ δ) (hd : δ[i]? = some (some (.own (.dct .leaf) d))) (e : putU d k x = some d') (pk : im F.G (rts as) (ban F os as) k y H) (px : im F.G (rts as) (ban F os as) x v H) :
    ∃ a H', σ[i]? = some (some (.ref a)) ∧ DPut H a y v H' ∧ SDo F os as st γ H' σ (δ.set i (some (.own (.dct .leaf) d'))) := by
  obtain ⟨v0, e0, A, m, o⟩ := Q.get hd
  cases d with
  | dct ks us =>
    obtain ⟨a, vs, e1, e2, e3, l, hv⟩ := own_dct.mp o
    subst e1 e2
    simp only [putU] at e
    split at e
    · rename_i hl
      cases ek : keyU k with
      | none => rw [ek] at e; cases e
      | some key =>
        rw [ek] at e
        simp only at e
        have ey := im_key ek pk
        subst ey
        have hz : (ks.zip vs).length < sizeLine := by rw [List.length_zip]; omega
        obtain ⟨ks', us', e5, rfl⟩ : ∃ ks' us', (match idxK key ks with | some j => if ks.Nodup then some (ks, us.set j x) else none | none => some (ks ++ [key], us ++ [x])) = some (ks', us') ∧ d' = .dct ks' us' := by
          cases ei : idxK key ks with
          | some j =>
            rw [ei] at e
            simp only at e ⊢
            split at e
            · rename_i nd
              cases e
              exact ⟨_, _, if_pos nd, rfl⟩
            · cases e
          | none => rw [ei] at e; cases e; exact ⟨_, _, rfl, rfl⟩
        obtain ⟨vs', p1, p2, p3⟩ := put_zip l hv px e5
        refine ⟨a, _, e0, DPut.k e3 hz, ?_⟩
        rw [p1]
        exact Q.redo m e0 e3 (fun _ z => nomatch z) (fun _ _ z => nomatch z) fun t => own_dct.mpr ⟨a, vs', rfl, rfl, upd_same, p2, t p3⟩
    · cases e
  | dcT ks us =>
    obtain ⟨a, vs, e1, e2, e3, l, hv⟩ := own_dcT.mp o
    subst e1 e2
    simp only [putU] at e
    split at e
    · rename_i hl
      cases ek : tkeyU k with
      | none => rw [ek] at e; cases e
      | some key =>
        rw [ek] at e
        simp only at e
        obtain ⟨b, ey, hb⟩ := im_tkey ek pk
        subst ey
        have hz : (ks.zip vs).length < sizeLine := by rw [List.length_zip]; omega
        obtain ⟨ks', us', e5, rfl⟩ : ∃ ks' us', (match idxK key ks with | some j => if ks.Nodup then some (ks, us.set j x) else none | none => some (ks ++ [key], us ++ [x])) = some (ks', us') ∧ d' = .dcT ks' us' := by
          cases ei : idxK key ks with
          | some j =>
            rw [ei] at e
            simp only at e ⊢
            split at e
            · rename_i nd
              cases e
              exact ⟨_, _, if_pos nd, rfl⟩
            · cases e
          | none => rw [ei] at e; cases e; exact ⟨_, _, rfl, rfl⟩
        obtain ⟨vs', p1, p2, p3⟩ := put_zip l hv px e5
        refine ⟨a, _, e0, DPut.t e3 hb hz, ?_⟩
        rw [p1]
        exact Q.redo m e0 e3 (fun _ z => nomatch z) (fun _ _ z => nomatch z) fun t => own_dcT.mpr ⟨a, vs', rfl, rfl, upd_same, p2, t p3⟩
    · cases e
  | _ => cases e
end
section
variable {F : Fr} {S L : Type} {δ : Dl} {i : Nat} {Sh0 : Sh} {te td tx : TE}
def xitemM (wd : M U) (wx : M (U × U)) : M (U × U) := .bind wd fun d => .bind wx fun p => .o ((itemU d p.1).map fun u => (u, p.2))
def itX (w : M (U × U)) : M (List U × U) := .bind w fun p => .o ((itU p.1).map fun us => (us, p.2))
end
section
variable {F : Fr} {S L : Type} {δ : Dl} {i : Nat} {Sh0 : Sh} {wi : TI} {g : TG} {tb : TS} {wl : M (List U × U)} {δ2 : L → Dl}
end
section
variable {B : Bn} {H : Hp} {d : Addr} {u0 : HO} {od : Obj}
end
section
variable {F : Fr} {os : Os} {as as' : SA} {st st' : Sto} {γ : List (U × V)} {H H' : Hp} {σ : L2.St} {δ : Dl} {d : Addr} {u0 : HO} {od : Obj}
end
def kU : Key → U
  | .inl i => .int i
  | .inr x => .str x
def keysL : U → Option (List U)
  | .dct ks _ => some (ks.map kU)
  | .dcT ks _ => some (ks.map fun k => .tup (k.map kU))
  | _ => none
def keysW (w : M U) : M (List U) := .bind w fun u => .o (keysL u)
section
variable {F : Fr} {δ : Dl} {wi : TI} {g : TG} {tt : TT} {te : TE} {vs : List Nat} {wl : M (List U)}
end
section
variable {F : Fr} {S L : Type} {δ : Dl} {δn : S → Dl} {δl : L → Dl} {t2 : TS} {i : Nat} {X : TE} {w : M U}
end
section
variable {F : Fr} {os os' : Os} {as as' : SA} {st st' : Sto} {γ : List (U × V)} {H H' : Hp} {σ : L2.St} {δ : Dl} {i k : Nat} {A : List Addr}
theorem flo_perm (p : os.Perm os') : (flo os).Perm (flo os') := (p.map _).flatten
theorem ban_perm (p : os.Perm os') {a : Addr} : ban F os as a ↔ ban F os' as a := by
  unfold ban
  rw [(flo_perm p).mem_iff]
theorem SDo.perm (S : SDo F os as st γ H σ δ) (p : os.Perm os') : SDo F os' as st γ H σ δ := by
  have up : ∀ u v, im F.G (rts as) (ban F os as) u v H → im F.G (rts as) (ban F os' as) u v H := fun u v h => im_sub (fun a _ b => (ban_perm p).mpr b) u v h
  refine ⟨fun q m => up _ _ (S.gh q m), S.rel, fun a b => S.ok a ((ban_perm p).mpr b), ((flo_perm p).append_right _).nodup S.nd, (p.map _).nodup S.ix, fun a m => S.new a ((flo_perm p).mem_iff.mpr m), fun a m => S.nb a (m.imp (fun m => (flo_perm p).mem_iff.mpr m) id), StOk.mono up (fun _ _ h => h) (fun _ _ => rfl) S.sto, S.len, fun i s e => ?_⟩
  obtain ⟨v, h1, h2⟩ := S.at_ i s e
  refine ⟨v, h1, ?_⟩
  match s, h2 with
  | .im u, h2 => exact up _ _ h2
  | .raw _, h2 => exact h2
  | .own s u, ⟨A, m, h2⟩ => exact ⟨A, p.mem_iff.mp m, own_mono up (fun _ _ h => h) s u v A (fun _ _ => rfl) h2⟩
def Pend (F : Fr) (os : Os) (as : SA) (H : Hp) (s : Sh) (u : U) (v : V) (k : Nat) (A : List Addr) : Prop := (k, A) ∈ os ∧ ownD F.G (rts as) (ban F os as) s u v H A
theorem Pend.go {s : Sh} {u : U} {v : V} (p : Pend F os as H s u v k A) (S : SDo F os as st γ H σ δ) (g : Go as as' H H') : Pend F os as' H' s u v k A :=
  ⟨p.1, own_go g p.2 (fun a z q => (List.nodup_append.mp S.nd).2.2 a (mem_flo p.1 z) a q rfl) fun a z => S.ok a (.inr (.inl (mem_flo p.1 z)))⟩
theorem Pend.more {s : Sh} {u : U} {v : V} {j : Nat} {A' : List Addr} (p : Pend F os as H s u v k A) (S : SDo F os as st γ H σ δ) (hn : ∀ a ∈ A', H a = none) (g : Go as as' H H') : Pend F ((j, A') :: os) as' H' s u v k A := by
  refine ⟨List.mem_cons_of_mem _ p.1, own_go (F := F) (os := (j, A') :: os) g (own_mono (fun u v h => im_sub (sub_cons (F := F) (os := os) (as := as) (k := j) hn) u v h) (fun _ _ h => h) s u v A (fun _ _ => rfl) p.2) (fun a z q => (List.nodup_append.mp S.nd).2.2 a (mem_flo p.1 z) a q rfl) fun a z => S.ok a (.inr (.inl (mem_flo p.1 z)))⟩
theorem pend_new {s : Sh} {u : U} {v : V} (o : ownD F.G (rts as) (ban F ((0, A) :: os) as) s u v H A) : Pend F ((k, A) :: os) as H s u v k A :=
  ⟨List.mem_cons_self, own_mono (fun u v h => im_sub (fun a _ b => by
    rcases b with b | b | b
    · exact .inl b
    · exact .inr (.inl b)
    · exact .inr (.inr b)) u v h) (fun _ _ h => h) s u v A (fun _ _ => rfl) o⟩
theorem SDo.settle {s : Sh} {u : U} {v : V} (S : SDo F os as st γ H σ δ) (hk : δ.length ≤ k) (p : Pend F os as H s u v k A) : ∃ os', SDo F os' as st γ H (σ.set i (some v)) (δ.set i (some (.own s u))) ∧
    ∀ (s2 : Sh) (u2 : U) (v2 : V) (k2 : Nat) (A2 : List Addr), k2 ≠ k → k2 ≠ i → Pend F os as H s2 u2 v2 k2 A2 → Pend F os' as H s2 u2 v2 k2 A2 := by
  have pm : os.Perm ((k, A) :: os.erase (k, A)) := List.perm_cons_erase p.1
  have S1 := S.perm pm
  have o := own_mono (fun u v h => im_sub (fun a _ b => (ban_perm (F := F) (as := as) pm).mpr (show ban F ((k, A) :: os.erase (k, A)) as a by
    rcases b with b | b | b
    · exact .inl b
    · exact .inr (.inl b)
    · exact .inr (.inr b))) u v h) (fun _ _ h => h) s u v A (fun _ _ => rfl) p.2 (B' := ban F ((0, A) :: os.erase (k, A)) as) (rs' := rts as)
  refine ⟨_, S1.own hk o, fun s2 u2 v2 k2 A2 n1 n2 p2 => ?_⟩
  have m2 : (k2, A2) ∈ os.erase (k, A) := (List.mem_erase_of_ne (fun e => n1 (Prod.mk.inj e).1)).mpr p2.1
  refine ⟨List.mem_cons_of_mem _ (List.mem_filter.mpr ⟨m2, by simpa using n2⟩), own_mono (fun u v h => im_sub (fun a _ b => ?_) u v h) (fun _ _ h => h) s2 u2 v2 A2 (fun _ _ => rfl) p2.2⟩
  rcases b with b | b | b
  · exact .inl b
  · refine .inr (.inl ((flo_perm pm).mem_iff.mpr ?_))
    rcases List.mem_append.mp (show a ∈ A ++ flo ((os.erase (k, A)).filter fun q => decide (q.1 ≠ i)) from b) with z | z
    · exact List.mem_append_left _ z
    · exact List.mem_append_right _ (flo_filt z)
  · exact .inr (.inr b)
end
section
variable {F : Fr} {S L : Type} {δ : Dl} {tz : TS} {δn : S → Dl} {δl : L → Dl}
theorem blk_par_WN {i0 i1 : Nat} {t0 t1 : TE} {w0 w1 : M U} {s1 : Sh} {k : U → U → M (Out S L)} (h0 : EvW F t0 δ w0) (h1 : EvN F s1 t1 δ w1) (h : ∀ a0 a1, Blk F tz ((δ.set i0 (some (.im a0))).set i1 (some (.own s1 a1))) (k a0 a1) δn δl) : Blk F (tSeq (tPar i0 i1 (tCons t0 (tCons t1 tNil))) tz) δ (.bind w0 fun a0 => .bind w1 fun a1 => k a0 a1) δn δl := fun D os as st γ σ H o st' Q q P => by
  obtain ⟨a0, st1, q0, r0⟩ := M.bind_inv q
  obtain ⟨a1, st2, q1, r1⟩ := M.bind_inv r0
  clear q r0
  refine h0 os as st γ σ H a0 _ Q q0 _ fun v0 H1 as1 g1 S1 p0 => ?_
  have T1 : SDo F os as1 st1 ([(a0, v0)] ++ γ) H1 σ δ := S1.ghost fun z m => by rw [List.mem_singleton] at m; rw [m]; exact p0
  refine h1 os as1 st1 ([(a0, v0)] ++ γ) σ H1 a1 _ T1 q1 _ fun v1 H2 as2 A1 g2 S2 p1 n1 => ?_
  obtain ⟨j1, m1, l1⟩ := nodup_fresh (os.map (·.1)) (max δ.length (i0 + i1 + 1))
  have T2 := S2 j1 m1
  have d1 := pend_new (k := j1) p1
  have E0 := T2.set (i := i0) (x := .im a0) (T2.gh (a0, v0) List.mem_cons_self)
  obtain ⟨o1, E1, f1⟩ := E0.settle (i := i1) (k := j1) (by (try simp only [List.length_set]); omega) d1
  exact ⟨v0, v1, rfl, h a0 a1 D _ as2 st2 γ _ H2 o st' (SDo.unghost (g := [(a0, v0)]) E1) r1 P⟩
theorem blk_par_WNN {i0 i1 i2 : Nat} {t0 t1 t2 : TE} {w0 w1 w2 : M U} {s1 : Sh} {s2 : Sh} {k : U → U → U → M (Out S L)} (h0 : EvW F t0 δ w0) (h1 : EvN F s1 t1 δ w1) (h2 : EvN F s2 t2 δ w2) (h : ∀ a0 a1 a2, Blk F tz (((δ.set i0 (some (.im a0))).set i1 (some (.own s1 a1))).set i2 (some (.own s2 a2))) (k a0 a1 a2) δn δl) : Blk F (tSeq (tPar3 i0 i1 i2 (tCons t0 (tCons t1 (tCons t2 tNil)))) tz) δ (.bind w0 fun a0 => .bind w1 fun a1 => .bind w2 fun a2 => k a0 a1 a2) δn δl := fun D os as st γ σ H o st' Q q P => by
  obtain ⟨a0, st1, q0, r0⟩ := M.bind_inv q
  obtain ⟨a1, st2, q1, r1⟩ := M.bind_inv r0
  obtain ⟨a2, st3, q2, r2⟩ := M.bind_inv r1
  clear q r0 r1
  refine h0 os as st γ σ H a0 _ Q q0 _ fun v0 H1 as1 g1 S1 p0 => ?_
  have T1 : SDo F os as1 st1 ([(a0, v0)] ++ γ) H1 σ δ := S1.ghost fun z m => by rw [List.mem_singleton] at m; rw [m]; exact p0
  refine h1 os as1 st1 ([(a0, v0)] ++ γ) σ H1 a1 _ T1 q1 _ fun v1 H2 as2 A1 g2 S2 p1 n1 => ?_
  obtain ⟨j1, m1, l1⟩ := nodup_fresh (os.map (·.1)) (max δ.length (i0 + i1 + i2 + 1))
  have T2 := S2 j1 m1
  have d1 := pend_new (k := j1) p1
  refine h2 ((j1, A1) :: os) as2 st2 ([(a0, v0)] ++ γ) σ H2 a2 _ T2 q2 _ fun v2 H3 as3 A2 g3 S3 p2 n2 => ?_
  obtain ⟨j2, m2, l2⟩ := nodup_fresh (((j1, A1) :: os).map (·.1)) (max δ.length (i0 + i1 + i2 + 1))
  replace d1 := d1.more (j := j2) T2 n2 g3
  have T3 := S3 j2 m2
  have d2 := pend_new (k := j2) p2
  have E0 := T3.set (i := i0) (x := .im a0) (T3.gh (a0, v0) List.mem_cons_self)
  obtain ⟨o1, E1, f1⟩ := E0.settle (i := i1) (k := j1) (by (try simp only [List.length_set]); omega) d1
  replace d2 := f1 _ _ _ _ _ (fun e => m2 (by rw [e]; simp)) (by omega) d2
  obtain ⟨o2, E2, f2⟩ := E1.settle (i := i2) (k := j2) (by (try simp only [List.length_set]); omega) d2
  exact ⟨v0, v1, v2, rfl, h a0 a1 a2 D _ as3 st3 γ _ H3 o st' (SDo.unghost (g := [(a0, v0)]) E2) r2 P⟩
end
section
variable {F : Fr}
end
end UX
namespace UX
open PySem PySem.Spec PyProof.Rows L2 UY
open EL (Ex RB BOk Bn TK rOr op_or)
def M.bind2 {β : Type} (w : M (U × U)) (k : U → U → M β) : M β := .bind w fun p => k p.1 p.2
section
variable {F : Fr} {S L : Type} {δ : Dl} {i j : Nat} {Sh0 : Sh} {te : TE} {t2 : TS} {δn : S → Dl} {δl : L → Dl}
end
def M.bindS {β : Type} (w : M (U × U)) (k : U → M β) : M β := .bind w fun p => k p.2
section
variable {F : Fr} {S L : Type} {δ : Dl} {i j : Nat} {Sh0 : Sh} {te : TE} {t2 : TS} {δn : S → Dl} {δl : L → Dl}
theorem blk_x2 {w : M (U × U)} {k : U → M (Out S L)} (h : EvX F i Sh0 te δ w) (h2 : ∀ u, Blk F t2 (δ.set i (some (.own Sh0 u))) (k u) δn δl) : Blk F (tSeq (tDrop te) t2) δ (.bindS w k) δn δl := blk_x h h2
end
def fV : U → Option V
  | .int i => some (.int i)
  | .str x => some (.str x)
  | .bl b => some (.bl b)
  | .non => some .non
  | _ => none
def fVs : List U → Option (List V)
  | [] => some []
  | u :: us => match fV u, fVs us with
    | some v, some vs => some (v :: vs)
    | _, _ => none
def seqOf : U → Option (List U)
  | .tup us => some us
  | .lst us => some us
  | _ => none
def inB (a b : U) : Option Bool := match fV a, seqOf b with
  | some v, some us => (fVs us).map fun vs => inV v vs
  | _, _ => match pd a, pd b with
    | some d, some (.list ds) => if SeqAt.shaped d = true ∧ SeqAt.shaped (.list ds) = true then some (ds.any fun z => PyData.eqv z d) else none
    | some d, some (.tuple ds) => if SeqAt.shaped d = true ∧ SeqAt.shaped (.tuple ds) = true then some (ds.any fun z => PyData.eqv z d) else none
    | _, _ => none
def inSU (a b : U) : Option U := (inB a b).map .bl
def notInSU (a b : U) : Option U := (inB a b).map fun t => .bl (!t)
theorem im_fV {G : Cxt} {rs : List Addr} {B : Bn} {H : Hp} {u : U} {v w : V} (e : fV u = some v) (h : im G rs B u w H) : w = v ∧ flatV v = true := by
  cases u <;> simp [fV] at e <;> subst e <;> exact ⟨h, rfl⟩
theorem im_fVs {G : Cxt} {rs : List Addr} {B : Bn} {H : Hp} : ∀ {us : List U} {vs ws : List V}, fVs us = some vs → imAll G rs B us ws H → ws = vs ∧ vs.all flatV = true
  | [], _, _, e, h => by cases e; exact ⟨h, rfl⟩
  | u :: us, vs, _, e, ⟨w, r, ew, h1, h2⟩ => by
    unfold fVs at e
    cases e1 : fV u with
    | none => rw [e1] at e; cases e
    | some v =>
      cases e2 : fVs us with
      | none => rw [e1, e2] at e; cases e
      | some vs' =>
        rw [e1, e2] at e
        cases e
        obtain ⟨h3, h4⟩ := im_fV e1 h1
        obtain ⟨h5, h6⟩ := im_fVs e2 h2
        subst ew h3 h5
        exact ⟨rfl, by rw [List.all_cons, h4, h6]; rfl⟩
def rInDT (K : PySem.W.Frag) : R2 := fun x y H Q => ∃ d ds, Dp K H x d ∧ Dp K H y (.tuple ds) ∧ SeqAt.shaped d = true ∧ SeqAt.shaped (.tuple ds) = true ∧ Q (.bl (ds.any fun z => PyData.eqv z d)) H
def rNotInDT (K : PySem.W.Frag) : R2 := fun x y H Q => ∃ d ds, Dp K H x d ∧ Dp K H y (.tuple ds) ∧ SeqAt.shaped d = true ∧ SeqAt.shaped (.tuple ds) = true ∧ Q (.bl (!ds.any fun z => PyData.eqv z d)) H
theorem op_inDT {X : Cx} (K : PySem.W.Frag) (hu : X.A.units + 66 < cLine) (h : X.K = K := by rfl) : OpR X (compareOp .In) (rInDT K) := by
  subst h
  intro pins s σ H x y v u Q I rx ry h
  obtain ⟨d, ds, hd, he, sd, se, q⟩ := h
  obtain ⟨as, r1⟩ := Dp.reads I d x v hd rx
  obtain ⟨bs, r2⟩ := Dp.reads I (.tuple ds) y u he ry
  exact SeqAt.in_tuple_reads r2 r1 (SeqAt.canLay_of_shaped se) (SeqAt.canLay_of_shaped sd) (room_in_shaped sd (by omega)) ⟨.bl _, H, I, rfl, q⟩
theorem op_notInDT {X : Cx} (K : PySem.W.Frag) (hu : X.A.units + 66 < cLine) (h : X.K = K := by rfl) : OpR X (compareOp .NotIn) (rNotInDT K) := by
  subst h
  intro pins s σ H x y v u Q I rx ry h
  obtain ⟨d, ds, hd, he, sd, se, q⟩ := h
  obtain ⟨as, r1⟩ := Dp.reads I d x v hd rx
  obtain ⟨bs, r2⟩ := Dp.reads I (.tuple ds) y u he ry
  exact SeqAt.notIn_tuple_reads r2 r1 (SeqAt.canLay_of_shaped se) (SeqAt.canLay_of_shaped sd) (room_in_shaped sd (by omega)) ⟨.bl _, H, I, rfl, q⟩
def rInA (K : PySem.W.Frag) : R2 := rOr (rIn K false) (rOr (rInD K) (rInDT K))
def rNotInA (K : PySem.W.Frag) : R2 := rOr (rIn K true) (rOr (rNotInD K) (rNotInDT K))
theorem op_inAK {X : Cx} (K : PySem.W.Frag) (hu : X.A.units + 66 < cLine) (h : X.K = K := by rfl) : OpR X (compareOp .In) (rInA K) := op_or (EL.op_inK K h) (op_or (EL.op_inDK K hu h) (op_inDT K hu h))
theorem op_notInAK {X : Cx} (K : PySem.W.Frag) (hu : X.A.units + 66 < cLine) (h : X.K = K := by rfl) : OpR X (compareOp .NotIn) (rNotInA K) := op_or (EL.op_notInK K h) (op_or (EL.op_notInDK K hu h) (op_notInDT K hu h))
section
variable {F : Fr}
theorem in_core {os : Os} {as : SA} {H : Hp} {a b : U} {x y : V} {t : Bool} (ha : rd F os as a x H) (hb : rd F os as b y H) (e : inB a b = some t) :
    (∃ p xs, y = .ref p ∧ (SqL F.G.K H p xs ∨ SqT F.G.K H p xs) ∧ flatV x = true ∧ xs.all flatV = true ∧ t = inV x xs) ∨ (∃ d ds, Dp F.G.K H x d ∧ Dp F.G.K H y (.list ds) ∧ SeqAt.shaped d = true ∧ SeqAt.shaped (.list ds) = true ∧ t = ds.any fun z => PyData.eqv z d) ∨ ∃ d ds, Dp F.G.K H x d ∧ Dp F.G.K H y (.tuple ds) ∧ SeqAt.shaped d = true ∧ SeqAt.shaped (.tuple ds) = true ∧ t = ds.any fun z => PyData.eqv z d := by
  have deep : (match pd a, pd b with
    | some d, some (.list ds) => if SeqAt.shaped d = true ∧ SeqAt.shaped (.list ds) = true then some (ds.any fun z => PyData.eqv z d) else none
    | some d, some (.tuple ds) => if SeqAt.shaped d = true ∧ SeqAt.shaped (.tuple ds) = true then some (ds.any fun z => PyData.eqv z d) else none
    | _, _ => none) = some t → (∃ d ds, Dp F.G.K H x d ∧ Dp F.G.K H y (.list ds) ∧ SeqAt.shaped d = true ∧ SeqAt.shaped (.list ds) = true ∧ t = ds.any fun z => PyData.eqv z d) ∨ ∃ d ds, Dp F.G.K H x d ∧ Dp F.G.K H y (.tuple ds) ∧ SeqAt.shaped d = true ∧ SeqAt.shaped (.tuple ds) = true ∧ t = ds.any fun z => PyData.eqv z d := fun e => by
    cases e1 : pd a with
    | none => rw [e1] at e; cases e
    | some d =>
      cases e2 : pd b with
      | none => rw [e1, e2] at e; cases e
      | some d2 =>
        rw [e1, e2] at e
        cases d2 with
        | list ds =>
          simp only at e
          split at e
          · rename_i h
            cases e
            exact .inl ⟨d, ds, rd_dp ha e1, rd_dp hb e2, h.1, h.2, rfl⟩
          · cases e
        | tuple ds =>
          simp only at e
          split at e
          · rename_i h
            cases e
            exact .inr ⟨d, ds, rd_dp ha e1, rd_dp hb e2, h.1, h.2, rfl⟩
          · cases e
        | _ => cases e
  unfold inB at e
  cases e1 : fV a with
  | none => rw [e1] at e; exact .inr (deep (by simpa using e))
  | some v =>
    cases e2 : seqOf b with
    | none => rw [e1, e2] at e; exact .inr (deep (by simpa using e))
    | some us =>
      rw [e1, e2] at e
      obtain ⟨vs, e3, rfl⟩ := Option.map_eq_some_iff.mp e
      obtain ⟨h1, h2⟩ := im_fV e1 (rd_im0 ha)
      subst h1
      left
      have hb0 := rd_im0 hb
      cases b <;> simp [seqOf] at e2
      · subst e2
        obtain ⟨p, ws, rfl, hp, hv⟩ := hb0
        obtain ⟨h3, h4⟩ := im_fVs e3 hv
        subst h3
        exact ⟨p, ws, rfl, .inr (EL.sqT_of hp), h2, h4, rfl⟩
      · subst e2
        obtain ⟨p, ws, rfl, _, hp, hv⟩ := hb0
        obtain ⟨h3, h4⟩ := im_fVs e3 hv
        subst h3
        exact ⟨p, ws, rfl, .inl (EL.sqL_of hp), h2, h4, rfl⟩
theorem ok_in : OpOk F (rInA F.G.K) inSU := fun os as H a b c x y ok ha hb e QQ k => by
  obtain ⟨t, et, rfl⟩ := Option.map_eq_some_iff.mp e
  rcases in_core ha hb et with ⟨p, xs, h1, h2, h3, h4, h5⟩ | ⟨d, ds, h1, h2, h3, h4, h5⟩ | ⟨d, ds, h1, h2, h3, h4, h5⟩
  · exact .inl ⟨p, xs, h1, h2, h3, h4, k _ H (Ex.refl _) (by rw [h5]; rfl)⟩
  · exact .inr (.inl ⟨d, ds, h1, h2, h3, h4, k _ H (Ex.refl _) (by rw [h5]; rfl)⟩)
  · exact .inr (.inr ⟨d, ds, h1, h2, h3, h4, k _ H (Ex.refl _) (by rw [h5]; rfl)⟩)
theorem ok_notIn : OpOk F (rNotInA F.G.K) notInSU := fun os as H a b c x y ok ha hb e QQ k => by
  obtain ⟨t, et, rfl⟩ := Option.map_eq_some_iff.mp e
  rcases in_core ha hb et with ⟨p, xs, h1, h2, h3, h4, h5⟩ | ⟨d, ds, h1, h2, h3, h4, h5⟩ | ⟨d, ds, h1, h2, h3, h4, h5⟩
  · exact .inl ⟨p, xs, h1, h2, h3, h4, k _ H (Ex.refl _) (by rw [h5]; rfl)⟩
  · exact .inr (.inl ⟨d, ds, h1, h2, h3, h4, k _ H (Ex.refl _) (by rw [h5]; rfl)⟩)
  · exact .inr (.inr ⟨d, ds, h1, h2, h3, h4, k _ H (Ex.refl _) (by rw [h5]; rfl)⟩)
end
end UX
namespace UY
open PySem PySem.Spec PyProof.Rows L2 UX
section
variable {X : Cx} {pins : List (Addr × Obj)} {σ : L2.St} {H : Hp} {s : Shared} {a b : Addr} {r : Value} {d : V} {k : List Key} {A : Around} {E : Value → Shared → Prop}
end
section
variable {X : Cx} {o e f : Expr} {td ty tx : TE} {apos cpos : Pos}
end
end UY
namespace UY
open PySem PySem.Spec PyProof.Rows L2
section
variable {prog : Program} {w : World} {A : Around} {R : Result → Shared → Prop} {s : Shared} {env : Env} {el ta ia tb ib : Expr} {fa fb : List Expr} {sc : Scope} {ps : Pos} {it ac : Value}
end
section
variable {X : Cx}
end
end UY
namespace UX
open PySem PySem.Spec PyProof.Rows L2 UY
open EL (Ex RB BOk Bn TK)
section
variable {F : Fr} {δ : Dl} {wi wi1 : TI} {g g1 : TG} {tt tt1 : TT} {te : TE} {vs vs1 : List Nat} {w0 : M (List U)} {w : World}
end
section
variable {F : Fr} {S L : Type} {δ : Dl} {tz : TS} {δn : S → Dl} {δl : L → Dl}
theorem blk_tup_WW {i0 i1 : Nat} {t0 t1 : TE} {w0 w1 : M U} {k : U → U → M (Out S L)} (h0 : EvW F t0 δ w0) (h1 : EvW F t1 δ w1) (h : ∀ a0 a1, Blk F tz ((δ.set i0 (some (.im a0))).set i1 (some (.im a1))) (k a0 a1) δn δl) : Blk F (tSeq (tAsg (tTup (tCons t0 (tCons t1 tNil))) (gTup F.G.K 2 (gCons (gName i0) (gCons (gName i1) gNil)))) tz) δ (.bind w0 fun a0 => .bind w1 fun a1 => k a0 a1) δn δl := fun D os as st γ σ H o st' Q q P => by
  obtain ⟨a0, st1, q0, r0⟩ := M.bind_inv q
  obtain ⟨a1, st2, q1, r1⟩ := M.bind_inv r0
  clear q r0
  refine h0 os as st γ σ H a0 _ Q q0 _ fun v0 H1 as1 g1 S1 p0 => ?_
  have T1 : SDo F os as1 st1 ([(a0, v0)] ++ γ) H1 σ δ := S1.ghost fun z m => by rw [List.mem_singleton] at m; rw [m]; exact p0
  refine h1 os as1 st1 ([(a0, v0)] ++ γ) σ H1 a1 _ T1 q1 _ fun v1 H2 as2 g2 S2 p1 => ?_
  have T2 : SDo F os as2 st2 ([(a1, v1)] ++ ([(a0, v0)] ++ γ)) H2 σ δ := S2.ghost fun z m => by rw [List.mem_singleton] at m; rw [m]; exact p1
  have E0 := T2.set (i := i0) (x := .im a0) (T2.gh (a0, v0) (List.mem_cons_of_mem _ List.mem_cons_self))
  have E1 := E0.set (i := i1) (x := .im a1) (E0.gh (a1, v1) List.mem_cons_self)
  have Z := (SDo.unghost (g := [(a0, v0)]) (SDo.unghost (g := [(a1, v1)]) E1))
  exact ⟨(by decide : 2 ≤ sizeLine), fun p hp => ⟨p, [v0, v1], rfl, EL.sqT_of upd_same, rfl, v0, [v1], rfl, v1, [], rfl, rfl, h a0 a1 D _ as2 st2 γ _ _ o st' (Z.ex (Ex.new hp)) r1 P⟩⟩
end
end UX
namespace UY
open PySem PySem.Spec PyProof.Rows L2
section
variable {X : Cx}
end
end UY
namespace UX
open PySem PySem.Spec PyProof.Rows L2 UY
open EL (Ex RB BOk Bn TK)
section
variable {F : Fr}
end
end UX
namespace UY
open PySem PySem.Spec PyProof.Rows L2
section
variable {X : Cx} {pins : List (Addr × Obj)} {σ : L2.St} {H : Hp} {s : Shared}
end
end UY
namespace UX
open PySem PySem.Spec PyProof.Rows L2 UY
open EL (Ex RB BOk Bn TK)
section
variable {G : Cxt} {rs : List Addr} {B : Bn} {H : Hp}
end
section
variable {F : Fr}
end
section
variable {F : Fr} {S L : Type} {δ : Dl} {δn : S → Dl} {δl : L → Dl} {t2 : TS} {i : Nat}
theorem ownZ_snoc1 {P : Nat → U → V → Hp → List Addr → Prop} {H : Hp} {u : U} {v : V} {A' : List Addr} : ∀ {us : List U} {n : Nat} {vs : List V} {A : List Addr}, ownZ P n us vs H A → P (n + us.length) u v H A' → ownZ P n (us ++ [u]) (vs ++ [v]) H (A ++ A')
  | [], n, _, _, ⟨e1, e2⟩, p => by subst e1 e2; exact ⟨v, [], A', [], rfl, by simp, by simpa using p, rfl, rfl⟩
  | x :: us, n, _, _, ⟨w, r, A1, A2, e1, e2, h1, h2⟩, p => by
    subst e1 e2
    exact ⟨w, r ++ [v], A1, A2 ++ A', rfl, by simp, h1, ownZ_snoc1 h2 (by rw [show n + 1 + us.length = n + (us.length + 1) by omega]; exact p)⟩
end
theorem binds_non {K : PySem.W.Frag} {fd : FuncData} {ps : List Str} (h : ∃ ds, Vals [V.non] ds ∧ Binds K fd ps ds) : Binds K fd ps [Value.none] := by
  obtain ⟨ds, r, b⟩ := h
  obtain ⟨u, rfl, ru⟩ := r.one
  have : u = Value.none := ru
  rw [← this]; exact b
section
variable {F : Fr} {δ : Dl} {ta : TA} {wa : M (List U)} {E : XK} {f : List U → M U}
end
section
variable {F : Fr}
end
end UX
namespace UY
open PySem PySem.Spec PyProof.Rows L2
section
variable {prog : Program} {w : World} {A : Around} {E : Value → Shared → Prop} {s : Shared}
end
section
variable {X : Cx}
end
end UY
namespace UX
open PySem PySem.Spec PyProof.Rows L2 UY
open EL (Ex RB BOk Bn TK)
section
variable {F : Fr} {δ : Dl} {te : TE} {wa : M U}
end
section
variable {F : Fr} {S L : Type} {δ : Dl} {tz : TS} {δn : S → Dl} {δl : L → Dl}
end
end UX
namespace UY
open PySem PySem.Spec PyProof.Rows L2
section
variable {X : Cx}
end
end UY
namespace UX
open PySem PySem.Spec PyProof.Rows L2 UY
open EL (Ex RB BOk Bn TK)
section
variable {F : Fr} {os : Os} {as as' : SA} {st st' : Sto} {γ : List (U × V)} {H H' : Hp} {σ : L2.St} {δ : Dl}
structure DS (F : Fr) (os : Os) (k0 : Nat) (D : Addr) (as : SA) (st : Sto) (γ : List (U × V)) (H : Hp) (σ : L2.St) (δ : Dl) (d : U) : Prop where
  S : SDo F ((k0, [D]) :: os) as st γ H σ δ
  a : (∃ ks us vs, d = .dct ks us ∧ H D = some (.dK (ks.zip vs)) ∧ ks.length = us.length ∧ imAll F.G (rts as) (ban F ((k0, [D]) :: os) as) us vs H) ∨
    ∃ ks us vs, d = .dcT ks us ∧ H D = some (.dT (ks.zip vs)) ∧ ks.length = us.length ∧ imAll F.G (rts as) (ban F ((k0, [D]) :: os) as) us vs H
variable {k0 : Nat} {D : Addr} {d : U}
theorem DS.go (l : DS F os k0 D as st γ H σ δ d) {σ' : L2.St} {δ' : Dl} (g : Go as as' H H') (S : SDo F ((k0, [D]) :: os) as' st' γ H' σ' δ') : DS F os k0 D as' st' γ H' σ' δ' d := by
  have keep : ∀ o, H D = some o → H' D = some o := fun o e => g.rb.keep _ _ (fun m => (List.nodup_append.mp l.S.nd).2.2 D (List.mem_append_left _ List.mem_cons_self) D m rfl) e
  refine ⟨S, ?_⟩
  rcases l.a with ⟨ks, us, vs, e, h, le, q⟩ | ⟨ks, us, vs, e, h, le, q⟩
  · exact .inl ⟨ks, us, vs, e, keep _ h, le, imAll_go g q⟩
  · exact .inr ⟨ks, us, vs, e, keep _ h, le, imAll_go g q⟩
theorem DS.put (l : DS F os k0 D as st γ H σ δ d) (hk : δ.length ≤ k0) {k x d' : U} {y v : V} (e : putU d k x = some d') (pk : im F.G (rts as) (ban F ((k0, [D]) :: os) as) k y H) (px : im F.G (rts as) (ban F ((k0, [D]) :: os) as) x v H) :
    ∃ o, DPut H D y v (upd H D o) ∧ DS F os k0 D as st γ (upd H D o) σ δ d' := by
  have upS : ∀ {o o' : HO}, H D = some o → (∀ xs, o ≠ .tup xs) → (∀ y u, o ≠ .frz y u) → SDo F ((k0, [D]) :: os) as st γ (upd H D o') σ δ ∧ ∀ {us : List U} {vs : List V}, imAll F.G (rts as) (ban F ((k0, [D]) :: os) as) us vs H → imAll F.G (rts as) (ban F ((k0, [D]) :: os) as) us vs (upd H D o') := fun {o o'} eD nt nf => by
    have c : Chg F ((k0, [D]) :: os) as H (upd H D o') k0 [D] [D] D := chg_same List.mem_cons_self List.mem_cons_self l.S eD nt nf
    have S := l.S.mut c (x := none) (fun _ z => nomatch z)
    have so := setOs_same l.S.ix (List.mem_cons_self (a := (k0, [D])) (l := os))
    rw [so] at S
    rw [List.set_eq_of_length_le hk] at S
    exact ⟨S, fun h => by have := c.imAll h; rw [so] at this; exact this⟩
  rcases l.a with ⟨ks, us, vs, rfl, eD, le, q⟩ | ⟨ks, us, vs, rfl, eD, le, q⟩
  · simp only [putU] at e
    split at e
    case isFalse => cases e
    rename_i hl
    cases ek : keyU k with
    | none => rw [ek] at e; cases e
    | some key =>
      rw [ek] at e
      simp only at e
      have ey := im_key ek pk
      subst ey
      have hz : (ks.zip vs).length < sizeLine := by rw [List.length_zip]; omega
      obtain ⟨ks', us', e5, rfl⟩ : ∃ ks' us', (match idxK key ks with | some j => if ks.Nodup then some (ks, us.set j x) else none | none => some (ks ++ [key], us ++ [x])) = some (ks', us') ∧ d' = .dct ks' us' := by
        cases ei : idxK key ks with
        | some j =>
          rw [ei] at e
          simp only at e ⊢
          split at e
          · rename_i nd; cases e; exact ⟨_, _, if_pos nd, rfl⟩
          · cases e
        | none => rw [ei] at e; cases e; exact ⟨_, _, rfl, rfl⟩
      obtain ⟨vs', p1, p2, p3⟩ := put_zip le q px e5
      obtain ⟨S, up⟩ := upS (o' := .dK (putK (ks.zip vs) key v)) eD (fun _ z => nomatch z) (fun _ _ z => nomatch z)
      exact ⟨_, DPut.k eD hz, S, .inl ⟨ks', us', vs', rfl, by rw [upd_same, p1], p2, up p3⟩⟩
  · simp only [putU] at e
    split at e
    case isFalse => cases e
    rename_i hl
    cases ek : tkeyU k with
    | none => rw [ek] at e; cases e
    | some key =>
      rw [ek] at e
      simp only at e
      obtain ⟨b, ey, hb⟩ := im_tkey ek pk
      subst ey
      have hz : (ks.zip vs).length < sizeLine := by rw [List.length_zip]; omega
      obtain ⟨ks', us', e5, rfl⟩ : ∃ ks' us', (match idxK key ks with | some j => if ks.Nodup then some (ks, us.set j x) else none | none => some (ks ++ [key], us ++ [x])) = some (ks', us') ∧ d' = .dcT ks' us' := by
        cases ei : idxK key ks with
        | some j =>
          rw [ei] at e
          simp only at e ⊢
          split at e
          · rename_i nd; cases e; exact ⟨_, _, if_pos nd, rfl⟩
          · cases e
        | none => rw [ei] at e; cases e; exact ⟨_, _, rfl, rfl⟩
      obtain ⟨vs', p1, p2, p3⟩ := put_zip le q px e5
      obtain ⟨S, up⟩ := upS (o' := .dT (putK (ks.zip vs) key v)) eD (fun _ z => nomatch z) (fun _ _ z => nomatch z)
      exact ⟨_, DPut.t eD hb hz, S, .inr ⟨ks', us', vs', rfl, by rw [upd_same, p1], p2, up p3⟩⟩
end
section
variable {F : Fr} {δ : Dl} {wi : TI} {g : TG} {tt : TT} {tk tv : TE} {vs : List Nat} {wl : M (List U)}
end
end UX
namespace UY
open PySem PySem.Spec PyProof.Rows L2
section
variable {X : Cx}
end
end UY
namespace UX
open PySem PySem.Spec PyProof.Rows L2 UY
open EL (Ex RB BOk Bn TK)
section
variable {F : Fr} {δ : Dl} {ta tb : TE} {wa wb : M U}
end
end UX
namespace UY
open PySem PySem.Spec PyProof.Rows L2
section
variable {X : Cx}
end
end UY
namespace UX
open PySem PySem.Spec PyProof.Rows L2 UY
open EL (Ex RB BOk Bn TK)
open RT
section
variable {F : Fr} {δ : Dl} {td ty te : TE} {wd wk w : M U}
end
section
variable {G : Cxt} {rs : List Addr} {B : Bn} {H : Hp}
end
section
variable {F : Fr} {S L : Type} {δ : Dl} {δn : S → Dl} {δl : L → Dl} {t2 : TS} {i : Nat} {tx : TE}
end
end UX
namespace UY
open PySem PySem.Spec PyProof.Rows L2
section
variable {X : Cx} {e : Expr} {t : TE}
end
end UY
namespace UX
open PySem PySem.Spec PyProof.Rows L2 UY
open EL (Ex RB BOk Bn TK)
section
variable {F : Fr} {os : Os} {as as' : SA} {st st' : Sto} {γ : List (U × V)} {H H' : Hp} {σ : L2.St} {δ : Dl} {d : Addr} {u0 : HO} {od : Obj}
end
section
variable {F : Fr} {δ : Dl} {g : TG} {tt : TT} {td te : TE} {vs : List Nat}
end
end UX
namespace UY
open PySem PySem.Spec PyProof.Rows L2
end UY
namespace UX
open PySem PySem.Spec PyProof.Rows L2 UY
open EL (Ex RB BOk Bn TK)
section
variable {F : Fr} {δ : Dl} {ta tb : TE} {wa wb : M U}
end
end UX
namespace UX
open PySem PySem.Spec PyProof.Rows L2
open EL (Ex RB BOk Bn TK FnG okG rm66)
section
variable {prog : Program} {w : World} {A : Around} {E : Value → Shared → Prop} {s : Shared} {K : PySem.W.Frag} {x C L f : Addr} {h₀ : Heap} {m : Str → Option Value} {ox : Obj} {od : Option Obj} {b tb : Value}
end
section
variable {X : Cx} {CX : CXT} {k : Nat} {f C : Addr} {fd : FuncData} {ps : List Str} {sp : Sp} {E : XK}
end
section
variable {F : Fr} {δ : Dl} {ta tb : TE} {wa wb : M U} {E : XK} {f : List U → M U} {c : Str} {g : Bool → Bool}
end
section
variable {X : Cx} {CX : CXT} {k : Nat} {f C : Addr} {fd : FuncData} {ps : List Str} {sp : Sp} {E : XK}
end
section
variable {F : Fr} {δ : Dl} {ta : TE} {wa : M U} {E : XK} {f : List U → M U} {c : Str}
end
end UX
namespace UX
open PySem PySem.Spec PyProof.Rows L2
open EL (Ex RB BOk Bn TK)
section
variable {fa : List He.Fa} {fn : List He.DefD} {ts : List He.Tab} {vs : List Vls} {xs : List FaX} {w : World} {K : PySem.W.Frag}
theorem SaysV.u (c : SaysV fa fn ts vs xs w K) : SaysU fa fn ts vs w K := by
  have e1 : He.obsT fa fn ts K = He.valT fn ts w := congrArg (fun z : AlU => z.1) c
  have e2 : ((vs.all fun q => He.valsB K (q.1 K) q.2) && xs.all fun x => x.ok K) = true := congrArg (fun z : AlU => z.2) c
  show ((_, _) : AlU) = (_, _)
  rw [e1, (Bool.and_eq_true_iff.mp e2).1]
theorem SaysV.x (c : SaysV fa fn ts vs xs w K) (i : Nat) {x : FaX} (h : xs[i]? = some x) : x.ok K = true := by
  have e2 : ((vs.all fun q => He.valsB K (q.1 K) q.2) && xs.all fun x => x.ok K) = true := congrArg (fun z : AlU => z.2) c
  exact List.all_eq_true.mp (Bool.and_eq_true_iff.mp e2).2 x (List.mem_of_getElem? h)
end
def lenU2 (n m : Nat) (us ks : List U) : Option U := if us.length = n ∧ ks.length = m then some .non else none
def callKM (n m : Nat) (f : List U → M U) (wa wk : M (List U)) : M U := .bind wa fun us => .bind wk fun ks => .bind (.o (lenU2 n m us ks)) fun _ => f (us ++ ks)
section
variable {F : Fr} {δ : Dl} {ta tk : TA} {wa wk : M (List U)} {E : XK} {f : List U → M U} {n m : Nat}
theorem ev_callK (ha : EvAW F ta δ wa) (hk : EvAW F tk δ wk) : EvW F (tCallN n m (spM F.G f) (fun vs zs => vs ++ zs) E ta tk) δ (callKM n m f wa wk) := fun os as st γ σ H c st' S q QQ k => by
  obtain ⟨us, st1, qa, q1⟩ := M.bind_inv q
  obtain ⟨ks, st2, qk, q2⟩ := M.bind_inv q1
  obtain ⟨_, _, ql, q3⟩ := M.bind_inv q2
  obtain ⟨el, rfl⟩ := M.o_inv ql
  unfold lenU2 at el
  split at el
  case isFalse => cases el
  rename_i hl
  refine ha os as st γ σ H us _ S qa _ fun vs H1 as1 g1 S1 pv => hk os as1 st1 γ σ H1 ks _ S1 qk _ fun zs H2 as2 g2 S2 pz => ?_
  have pv2 := imAll_go g2 pv
  refine ⟨(imAll_len pv2).trans hl.1, (imAll_len pz).trans hl.2, ?_⟩
  obtain ⟨ok, nb, e⟩ := S2.enter
  have pv3 := imAll_sub (fun a _ b => (e a).mp b) _ _ (imAll_append pv2 pz)
  refine ⟨fun a => F.B a ∨ a ∈ flo os, as2, _, us ++ ks, c, st', ok, (List.nodup_append.mp S2.nd).2.1, nb, StOk.mono (fun _ _ h => im_sub (fun a _ b => (e a).mp b) _ _ h) (fun _ _ h => h) (fun _ _ => rfl) S2.sto, pv3, q3, fun as' v H' r => ?_⟩
  obtain ⟨S3, p⟩ := S2.leave r
  exact k v H' as' ((g1.trans g2).trans r.rel) S3 p
end
structure InsF (K : PySem.W.Frag) (C : Addr) : Prop where
  cl : Cls K C
  ha : PySem.W.findIn K (.ref C) "__class__" = some (some (.builtin "object.__class__"))
  hn : PySem.W.specialIn K (.builtin "object.__class__") "__get__" = some (some (.builtin "getset_descriptor.__get__"))
  ht : PySem.W.takesIn K (.builtin "object.__class__") = some true
  hm : PySem.W.mroIn K C (.type "object") = some true
  ty : (PySem.W.typeIn K (.ref C) == some (.type "type")) = true
  nt : ∀ t ∈ okT, PySem.W.mroIn K C (.type t) = some false
section
variable {F : Fr} {δ : Dl} {ta : TE} {wa : M U} {c : Str}
end
def strOU : U → Option U
  | .int i => if i.natAbs.log2 < 1920 then some (.str (toString i)) else none
  | .str a => some (.str a)
  | _ => none
def rStr01 : List V → Hp → VK → Prop := fun xs H Q => (∃ i, xs = [.int i] ∧ i.natAbs.log2 < 1920 ∧ Q (.str (toString i)) H) ∨ ∃ a, xs = [.str a] ∧ Q (.str a) H
theorem cr_str01 {X : Cx} : CallR X (.type "str") rStr01 := by
  intro pins s σ H xs us Q I r h
  rcases h with h | h
  · exact call_str_int pins s σ H xs us Q I r h
  · exact SkE.call_str_str pins s σ H xs us Q I r h
def unStr : List U → Option (List Str)
  | [] => some []
  | .str a :: us => (unStr us).map (a :: ·)
  | _ => none
theorem unStr_im {G : Cxt} {rs : List Addr} {B : Bn} {H : Hp} : ∀ {us : List U} {vs : List V} {ys : List Str}, unStr us = some ys → imAll G rs B us vs H → vs = ys.map V.str
  | [], vs, ys, e, h => by cases e; exact h
  | u :: us, vs, ys, e, ⟨v, r, e1, h1, h2⟩ => by
    cases u with
    | str a =>
      obtain ⟨zs, e2, e3⟩ := Option.map_eq_some_iff.mp (show (unStr us).map (a :: ·) = some ys from e)
      subst e3 e1
      rw [List.map_cons, unStr_im e2 h2, show v = V.str a from h1]
    | _ => cases e
def joinS (a : Str) (us : List U) : Option U := match unStr us with
  | some ys => if (ys.map (·.length)).sum + ys.length * a.length ≤ 16777216 then some (.str (Txt.join a ys)) else none
  | none => none
def joinU : U → U → Option U
  | .str a, .lst us => joinS a us
  | .str a, .tup us => joinS a us
  | _, _ => none
theorem joinS_inv {a : Str} {us : List U} {c : U} (e : joinS a us = some c) : ∃ ys, unStr us = some ys ∧ (ys.map (·.length)).sum + ys.length * a.length ≤ 16777216 ∧ c = .str (Txt.join a ys) := by
  unfold joinS at e
  split at e
  · rename_i ys ey
    split at e
    · rename_i l
      cases e
      exact ⟨ys, ey, l, rfl⟩
    · cases e
  · cases e
def rJoin (K : PySem.W.Frag) : V → List V → Hp → VK → Prop := fun x xs H Q => ∃ a p, ∃ ys : List Str, x = .str a ∧ xs = [.ref p] ∧ (SqL K H p (ys.map V.str) ∨ SqT K H p (ys.map V.str)) ∧ (ys.map (·.length)).sum + ys.length * a.length ≤ 16777216 ∧ Q (.str (Txt.join a ys)) H
theorem pe_joinK {X : Cx} {K : PySem.W.Frag} {o e : Expr} {to te : TE} {apos pos : Pos} (h : X.K = K) (ho : PE X o to) (he : PE X e te) (hs : starEach [e] X.env = [(false, eval e X.env)] := by rfl) (hbase : attributeBase o "join" X.env (eval o X.env) = eval o X.env := by rfl) (hline : (apos.endLine == pos.line) = true := by rfl) :
    PE X (.Call (.Attribute o "join" apos) [e] [] pos) (tM1 (rJoin K) to te) := by subst h; exact pe_join ho he hs hbase hline
section
variable {F : Fr} {δ : Dl} {ta tb : TE} {wa wb : M U}
theorem ok_str01 : Op1Ok F rStr01 strOU := fun os as H a c x ok ha e QQ k => by
  cases a with
  | int i =>
    simp only [strOU] at e
    split at e
    · cases e
      exact .inl ⟨i, by rw [show x = V.int i from ha], by assumption, k _ H (Ex.refl H) rfl⟩
    · cases e
  | str z => cases e; exact .inr ⟨z, by rw [show x = V.str z from ha], k _ H (Ex.refl H) rfl⟩
  | _ => cases e
theorem ev_join (ha : EvR F ta δ wa) (hb : EvR F tb δ wb) : EvW F (tM1 (rJoin F.G.K) ta tb) δ (op2 joinU wa wb) := fun os as st γ σ H c st' S q QQ k => by
  obtain ⟨a, st1, qa, q⟩ := M.bind_inv q
  obtain ⟨b, st2, qb, q⟩ := M.bind_inv q
  obtain ⟨e, rfl⟩ := M.o_inv q
  refine ha os as st γ σ H a st1 S qa _ fun x H1 as1 g1 S1 px => ?_
  cases a with
  | str z => ?_
  | _ => cases e
  have ex : x = V.str z := px
  refine ⟨⟨z, ex⟩, hb os as1 st1 γ σ H1 b _ S1 qb _ fun y H2 as2 g2 S2 py => ?_⟩
  cases b with
  | lst us =>
    obtain ⟨ys, e1, l, rfl⟩ := joinS_inv (show joinS z us = some c from e)
    obtain ⟨p, vs, rfl, _, tb, qb⟩ := py
    refine ⟨z, p, ys, ex, rfl, .inl (.inl (.inl ?_)), l, k _ H2 as2 (g1.trans g2) S2 rfl⟩
    rw [← unStr_im e1 qb]; exact tb
  | tup us =>
    obtain ⟨ys, e1, l, rfl⟩ := joinS_inv (show joinS z us = some c from e)
    obtain ⟨p, vs, rfl, tb, qb⟩ := py
    refine ⟨z, p, ys, ex, rfl, .inr ?_, l, k _ H2 as2 (g1.trans g2) S2 rfl⟩
    rw [← unStr_im e1 qb]; exact EL.sqT_of tb
  | _ => cases e
end
structure FrA (G : Cxt) (B : Bn) (H0 : Hp) (A : List Addr) (as : SA) (st : Sto) (H : Hp) (u : U) (v : V) : Prop where
  own : ownD G (rts as) (fun a => B a ∨ a ∈ A ∨ a ∈ fl as) (.lst .leaf) u v H A
  new : ∀ a ∈ A, H0 a = none ∧ ¬ B a ∧ a ∉ fl as
  sto : StOk G (fun a => B a ∨ a ∈ A ∨ a ∈ fl as) (rts as) as st H
def frR (G : Cxt) (B : Bn) (H0 : Hp) : SA → Sto → Hp → U → V → Prop := fun as st H u v => ∃ A, FrA G B H0 A as st H u v
def spMN (G : Cxt) (f : List U → M U) : Sp := fun vs H Q _ => ∃ (B : Bn) (as : SA) (st : Sto) (us : List U) (u : U) (st' : Sto),
  BOk (ban ⟨G, B, H, as, noR⟩ [] as) H ∧ (fl as).Nodup ∧ (∀ a ∈ fl as, ¬ B a) ∧ StOk G (ban ⟨G, B, H, as, noR⟩ [] as) (rts as) as st H ∧ imAll G (rts as) (ban ⟨G, B, H, as, noR⟩ [] as) us vs H ∧ f us st = some (.ok u, st') ∧
  ∀ as' v H', Rt ⟨G, B, H, as, frR G B H⟩ as' st' H' u v → Q v H'
section
variable {F : Fr} {δ : Dl}
end
section
variable {P : Program} {w : World} {K : PySem.W.Frag} {mg : Str → Option Value} {bs : Heap} {CX : CXT} {x qu : Str} {pa : Arguments} {bo : List Stmt} {sc : Scope} {dv : List V} {kw : List (Str × V)} {f : Addr} {fd : FuncData}
end
section
variable {F : Fr} {δ : Dl} {ta : TA} {wa : M (List U)} {E : XK} {f : List U → M U}
theorem SDo.fresh {os : Os} {as as' : SA} {st st' : Sto} {γ : List (U × V)} {H H' : Hp} {σ : L2.St} {k : Nat} {A : List Addr} {u : U} {v : V} (S : SDo F os as st γ H σ δ) (g : Go as as' H H') (S2 : SDo F os as' st' γ H' σ δ)
    (r : FrA F.G (fun a => F.B a ∨ a ∈ flo os) H A as' st' H' u v) (hk : k ∉ os.map (·.1)) : SDo F ((k, A) :: os) as' st' γ H' σ δ := by
  cases u with
  | lst us => ?_
  | _ => exact r.own.elim
  obtain ⟨p, vs, ev, rfl, hp', _⟩ := own_lst.mp r.own
  obtain ⟨hp, hnB, hnf⟩ := r.new p (List.mem_singleton.mpr rfl)
  have hA : ∀ a ∈ [p], H a = none := fun a m => by rw [List.mem_singleton] at m; rw [m]; exact hp
  have sb := sub_cons (F := F) (os := os) (as := as) (k := k) hA
  have up : ∀ u v, im F.G (rts as) (ban F os as) u v H → im F.G (rts as') (ban F ((k, [p]) :: os) as') u v H' := fun u v h => im_go g (im_sub sb _ _ h)
  have tp : ∀ a xs, H a = some (.tup xs) → H' a = some (.tup xs) := fun a xs h => g.rb.tup _ _ h
  refine ⟨fun q m => up _ _ (S.gh q m), S2.rel, fun a b => ?_, ?_, List.nodup_cons.mpr ⟨hk, S2.ix⟩, fun a m => ?_, fun a z => ?_, StOk.mono (fun _ _ h => im_sub (fun a _ b => ?_) _ _ h) (fun _ _ h => h) (fun _ _ => rfl) r.sto, S2.len, fun i x e1 => ?_⟩
  · rcases ban_cons.mp b with z | z
    · rw [List.mem_singleton] at z; rw [z, hp']; exact fun z => nomatch z
    · exact S2.ok a z
  · rw [flo_cons]
    show (p :: (flo os ++ fl as')).Nodup
    refine List.nodup_cons.mpr ⟨fun m => ?_, S2.nd⟩
    rcases List.mem_append.mp m with m | m
    · exact hnB (.inr m)
    · exact hnf m
  · rw [flo_cons] at m
    rcases List.mem_append.mp m with m | m
    · rw [List.mem_singleton] at m; rw [m]; exact S.rel.fresh hp
    · exact S2.new a m
  · rw [flo_cons] at z
    rcases z with z | z
    · rcases List.mem_append.mp z with z | z
      · rw [List.mem_singleton] at z; rw [z]; exact fun b => hnB (.inl b)
      · exact S2.nb a (.inl z)
    · exact S2.nb a (.inr z)
  · rcases ban_cons.mp b with z | z
    · exact .inr (.inl z)
    · rcases z with z | z | z
      · exact .inl (.inl z)
      · exact .inl (.inr z)
      · exact .inr (.inr z)
  · obtain ⟨v, h1, h2⟩ := S.at_ i x e1
    refine ⟨v, h1, ?_⟩
    match x, h2 with
    | .im u, h2 => exact up _ _ h2
    | .raw _, h2 => exact h2
    | .own sh u, ⟨A, m, h2⟩ =>
      refine ⟨A, List.mem_cons_of_mem _ m, own_mono up tp _ _ _ _ (fun a z => ?_) h2⟩
      have hal := S.ok a (.inr (.inl (mem_flo m z)))
      cases q : H a with
      | none => exact absurd q hal
      | some o => exact g.rb.keep a o (fun b => (List.nodup_append.mp S.nd).2.2 a (mem_flo m z) a b rfl) q
theorem en_call (h : EvAW F ta δ wa) : EvN F (.lst .leaf) (tCall (spMN F.G f) [] E ta) δ (callM f wa) := fun os as st γ σ H c st' S q QQ k => by
  obtain ⟨us, st1, qa, q⟩ := M.bind_inv q
  refine h os as st γ σ H us st1 S qa _ fun vs H1 as1 g1 S1 pv => ?_
  show spMN F.G f (vs ++ []) H1 QQ E
  rw [List.append_nil]
  obtain ⟨ok, nb, e⟩ := S1.enter
  refine ⟨fun a => F.B a ∨ a ∈ flo os, as1, st1, us, c, st', ok, (List.nodup_append.mp S1.nd).2.1, nb, StOk.mono (fun _ _ h => im_sub (fun a _ b => (e a).mp b) _ _ h) (fun _ _ h => h) (fun _ _ => rfl) S1.sto, imAll_sub (fun a _ b => (e a).mp b) _ _ pv, q, fun as' v H' r => ?_⟩
  obtain ⟨S2, p⟩ := S1.leave (st' := st') (u := c) (v := v) ⟨r.rel, r.ok, r.nd, r.nb, r.sto, r.im, trivial⟩
  obtain ⟨A, fr⟩ := r.r
  refine k v H' as' A (g1.trans r.rel) (fun k hk => S1.fresh r.rel S2 fr hk) (own_mono (fun u v h => im_sub (fun a _ b => ?_) _ _ h) (fun _ _ h => h) _ _ _ _ (fun _ _ => rfl) fr.own) fun a m => g1.fresh (fr.new a m).1
  rcases ban_cons.mp b with z | z
  · exact .inr (.inl z)
  · rcases z with z | z | z
    · exact .inl (.inl z)
    · exact .inl (.inr z)
    · exact .inr (.inr z)
end
section
variable {X : Cx} {CX : CXT} {k : Nat} {f C : Addr} {fd : FuncData} {ps : List Str} {sp : Sp} {E : XK}
end
section
variable {F : Fr} {δ : Dl} {ta tb : TE} {wa wb : M U} {E : XK} {f : List U → M U} {c : Str}
end
end UX
namespace GQ
open PySem PySem.SeqAt
open AutoSeq1 (wpAny_loadPart')
open MeetsSeq MeetsSeq2 MeetsSeq3 SeqRoads2
section
variable {prog : Program} {w : World} {A : Around} {R : Result → Shared → Prop}
end
section
variable {prog : Program} {w : World} {A : Around} {E : Value → Shared → Prop} {s : Shared}
end
end GQ
namespace UX
open PySem PySem.Spec PyProof.Rows L2
open EL (Ex RB BOk Bn TK)
section
variable {G : Cxt} {rs : List Addr} {B : Bn} {H : Hp}
end
section
variable {X : Cx} {CX : CXT} {k : Nat} {f C : Addr} {fd : FuncData} {ps : List Str} {sp : Sp} {E : XK}
end
section
variable {F : Fr} {δ : Dl} {ta tb : TE} {wa wb : M U} {E : XK} {f : List U → M U} {c : Str} {g : Bool → Bool}
end
end UX
namespace UX
open PySem PySem.Spec PyProof.Rows L2
open EL (Ex RB BOk Bn TK rAddU rMulU)
section
variable {F : Fr} {δ : Dl} {ta tb : TE} {wa wb : M U}
end
end UX
namespace GQ
open PySem PySem.SeqAt PyProof.Rows
open AutoSeq1 (wpAny_loadPart')
open MeetsSeq MeetsSeq2 MeetsSeq3 SeqRoads2
section
variable {prog : Program} {w : World} {A : Around} {s : Shared} {x C dx : Addr} {K : PySem.W.Frag} {od : Option Obj} {E : Value → Shared → Prop} {Q : PySem.Fin → Shared → Prop}
end
section
variable {prog : Program} {w : World} {A : Around} {s : Shared} {x C dx f L : Addr} {K : PySem.W.Frag} {od : Option Obj} {E : Value → Shared → Prop} {Q : Value → Shared → Prop} {h₀ : Heap} {m : Str → Option Value}
end
end GQ
namespace UX
open PySem PySem.Spec PyProof.Rows L2
open EL (Ex RB BOk Bn TK)
inductive TyE (H : Hp) : V → String → Prop where
  | non : TyE H .non "NoneType"
  | bl (b : Bool) : TyE H (.bl b) "bool"
  | int (i : Int) : TyE H (.int i) "int"
  | str (x : Str) : TyE H (.str x) "str"
  | tup {a : Addr} {xs : List V} (e : H a = some (.tup xs)) : TyE H (.ref a) "tuple"
  | lst {a : Addr} {xs : List V} (e : H a = some (.lst xs)) : TyE H (.ref a) "list"
section
variable {X : Cx} {CX : CXT} {k : Nat} {f C : Addr} {fd : FuncData} {ps : List Str} {sp : Sp} {E : XK}
end
end UX
namespace GQ
open PySem PySem.SeqAt PyProof.Rows
open AutoSeq1 (wpAny_loadPart')
open MeetsSeq MeetsSeq2 MeetsSeq3 SeqRoads2
section
variable {prog : Program} {w : World} {A : Around} {R : Result → Shared → Prop}
end
section
variable {prog : Program} {w : World} {A : Around} {E : Value → Shared → Prop} {s : Shared}
end
end GQ
namespace UX
open PySem PySem.Spec PyProof.Rows L2
open EL (Ex RB BOk Bn TK)
def AskW (sp : Sp) (E : XK) (vs : List V) (H : Hp) (Q : Bool → Hp → Prop) : Prop := sp vs H (fun v H' => ∃ k, v = .bl k ∧ Q k H') E
def CmpW (K : PySem.W.Frag) (C : Addr) (sp : Sp) (E : XK) (x y : V) (H : Hp) (Q : Bool → Hp → Prop) : Prop :=
  (∃ a dx fs, x = .ref a ∧ H a = some (.ins C dx fs) ∧ ((∃ b dy gs, y = .ref b ∧ H b = some (.ins C dy gs)) ∨ (∃ t, TyX K H y (.type t) ∧ t ∈ okT)) ∧ AskW sp E [x, y] H Q) ∨
  (∃ a dx fs t, y = .ref a ∧ H a = some (.ins C dx fs) ∧ TyE H x t ∧ t ∈ okT ∧ AskW sp E [y, x] H Q)
section
variable {X : Cx} {CX : CXT} {k : Nat} {f C : Addr} {fd : FuncData} {ps : List Str} {sp : Sp} {E : XK}
theorem CmpW.kind {K : PySem.W.Frag} {x y : V} {H : Hp} {Q : Bool → Hp → Prop} (h : CmpW K C sp E x y H Q) : (∃ b, x = .ref b) ∨ ∃ t, TyE H x t := by
  rcases h with ⟨a, dx, fs, rfl, _⟩ | ⟨a, dx, fs, t, _, _, ty, _⟩
  · exact .inl ⟨_, rfl⟩
  · exact .inr ⟨t, ty⟩
end
section
variable {F : Fr} {δ : Dl} {ta tb : TE} {wa wb : M U} {E : XK} {f : List U → M U} {c : Str} {g : Bool → Bool}
end
section
variable {F : Fr} {δ : Dl} {ta tb : TE} {wa wb : M U} {E : XK} {f : List U → M U} {c : Str} {g : Bool → Bool}
end
end UX
namespace UX
open PySem PySem.Spec PyProof.Rows L2 UY
open EL (Ex RB BOk Bn TK)
def rLenSet (w : World) : List V → Hp → VK → Prop := fun vs H Q => ∃ (a : Addr) (S : Int → Bool) (n : Nat), vs = [V.ref a] ∧ H a = some (SetO w a S n) ∧ n < 64 ∧ Q (.int n) H
theorem cr_lenSet {X : Cx} : CallR X (.builtin "len") (rLenSet X.w) := by
  intro pins s σ H vs us Q I r h
  obtain ⟨a, S, n, rfl, ha, h64, q⟩ := h
  obtain ⟨o, es, ep, t, ho, hex, hd, _, _, _, hb, hf, hn, _⟩ := setO_get I ha
  rw [Vals.ref1 r]
  exact call_len_set ho hex hd hf (by rw [hn]; omega) ⟨.int n, H, I.tok _, ⟨_, by rw [hn]⟩, q⟩
theorem cr_lenSetK {X : Cx} (w : World) (hw : X.w = w := by rfl) : CallR X (.builtin "len") (rLenSet w) := hw ▸ cr_lenSet
def lenDU : U → Option U
  | .lst us => match intsL us with
    | some ns => if (ddI ns).length < 64 then some (.int (ddI ns).length) else none
    | none => none
  | _ => none
section
variable {F : Fr} {δ : Dl} {wi wi1 : TI} {g g1 : TG} {tt tt1 : TT} {te : TE} {vs vs1 : List Nat} {wl : M (List U)} {w : World}
theorem ev_lenSc {wt : U → M Bool} {we : U → M U} (no : noOwn δ vs = true) (hs : Src F wi δ wl)
    (hb : ∀ u st r, wt u st = some r → ∃ δ', TgOk F g vs (wipD δ vs) u δ' ∧ EvT F tt δ' (wt u) ∧ EvW F te δ' (we u)) : EvW F (tCB (rLenSet w) (tCons (tSci w wi g tt te vs) tNil)) δ (op1 lenDU (lcW wl wt we)) := fun os as st γ σ H c st' S q QQ k => by
  obtain ⟨c1, stx, q0, q⟩ := M.bind_inv q
  obtain ⟨ec, rfl⟩ := M.o_inv q
  obtain ⟨us, st1, qs, q⟩ := M.bind_inv q0
  obtain ⟨r, st2, qr, q⟩ := M.bind_inv q
  obtain ⟨e, rfl⟩ := M.o_inv q
  unfold szU at e
  by_cases hsz : r.length ≤ sizeLine
  case neg => rw [if_neg hsz] at e; cases e
  rw [if_pos hsz] at e
  cases e
  simp only [lenDU] at ec
  cases en : intsL r with
  | none => rw [en] at ec; cases ec
  | some ns =>
  rw [en] at ec
  simp only at ec
  by_cases h64 : (ddI ns).length < 64
  case neg => rw [if_neg h64] at ec; cases ec
  rw [if_pos h64] at ec
  cases ec
  have er := intsL_eq en
  refine hs os as st (ghv σ δ vs ++ γ) σ H us st1 (S.ghost (ghv_ok S vs)) qs _ fun J H1 as1 gh g1 S1 W D hD => ?_
  obtain ⟨k0, hk0, hkl⟩ := nodup_fresh (os.map (·.1)) δ.length
  have S2 := S1.grow hk0 hD (Ex.new (o := SetO w D (fun _ => false) 0) hD) (by rw [upd_same]; exact fun z => nomatch z)
  have hD0 : H D = none := g1.fresh hD
  have hkw : (wipD δ vs).length ≤ k0 := by rw [wipD_len]; exact hkl
  refine ⟨fun i m Hc => m = us.length - i ∧ i ≤ us.length ∧ ∃ as2 st2 ms rest, Go as as2 H Hc ∧ SS w F os k0 D as2 st2 (gh ++ (ghv σ δ vs ++ γ)) Hc (L2.wipe σ vs) (wipD δ vs) ms ∧ compM wt we (us.drop i) st2 = some (.ok rest, st') ∧ ms.map U.int ++ rest = r,
    ⟨us.length, by simp, Nat.zero_le _, as1, st1, [], r, go_new (H1 := H) g1 hD0, ⟨S2.wipe vs, by rw [upd_same]; rfl⟩, by rw [List.drop_zero]; exact qr, rfl⟩, ?_⟩
  rintro i m Hc ⟨rfl, hi, as2, st2, ms, rest, g2, l2, q2, eq⟩
  by_cases hlt : i < us.length
  · right
    refine ⟨W.goes i _ as2 st2 _ _ _ Hc hlt l2.S, fun H' => ∃ m', m' < us.length - i ∧ m' = us.length - (i + 1) ∧ i + 1 ≤ us.length ∧ ∃ as2 st2 ms rest, Go as as2 H H' ∧ SS w F os k0 D as2 st2 (gh ++ (ghv σ δ vs ++ γ)) H' (L2.wipe σ vs) (wipD δ vs) ms ∧ compM wt we (us.drop (i + 1)) st2 = some (.ok rest, st') ∧ ms.map U.int ++ rest = r, fun H' ⟨m', h1, h2, h3⟩ => ⟨m', h1, h2, h3⟩, fun x H' y => ?_⟩
    have ed : us.drop i = us[i] :: us.drop (i + 1) := List.drop_eq_getElem_cons hlt
    rw [ed, compM] at q2
    obtain ⟨b, st3, q3, q2⟩ := M.bind_inv q2
    obtain ⟨δ', tg, ht, he⟩ := hb us[i] st2 _ q3
    obtain ⟨ex, px⟩ := W.yields i _ as2 st2 _ _ _ x Hc H' us[i] (List.getElem?_eq_getElem hlt) l2.S y
    have gx : Go as2 as2 Hc H' := Go.of_ex ex
    have l3 := l2.go gx (l2.S.ex ex)
    refine tg.2 _ as2 st2 _ H' _ x l3.S px _ fun σ2 wq S3 => ⟨by rw [wq, wipe_idem], ?_⟩
    have back : ∀ {as4 : SA} {st4 : Sto} {H4 : Hp}, SDo F ((k0, [D]) :: os) as4 st4 (gh ++ (ghv σ δ vs ++ γ)) H4 σ2 δ' → SDo F ((k0, [D]) :: os) as4 st4 (gh ++ (ghv σ δ vs ++ γ)) H4 (L2.wipe σ vs) (wipD δ vs) := fun S4 => by
      have := S4.wipe vs
      rw [wq, wipe_idem, tg.1, wipD_idem] at this
      exact this
    refine ht _ as2 st2 _ σ2 H' b st3 S3 q3 _ fun H3 as3 g3 S4 => ?_
    cases b with
    | false => exact ⟨us.length - (i + 1), by omega, rfl, hlt, as3, st3, ms, rest, (g2.trans gx).trans g3, l3.go g3 (back S4), q2, eq⟩
    | true =>
      simp only [if_true] at q2 ⊢
      obtain ⟨u, st5, q5, q2⟩ := M.bind_inv q2
      obtain ⟨r', st6, q6, q2⟩ := M.bind_inv q2
      cases q2
      have hu : ∃ kk : Int, u = .int kk := by
        have : u ∈ ns.map U.int := by rw [← er, ← eq]; simp
        obtain ⟨kk, _, rfl⟩ := List.mem_map.mp this
        exact ⟨kk, rfl⟩
      obtain ⟨kk, rfl⟩ := hu
      refine he _ as3 st3 _ σ2 H3 _ st5 S4 q5 _ fun y H5 as5 g5 S5 py => ?_
      have ey : y = .int kk := py
      subst ey
      refine ((l3.go g3 (back S4)).go g5 (back S5)).push hkw kk ?_ fun H6 l6 hk6 hD6 => ?_
      · have h1 : ns = ms ++ (intsL (U.int kk :: r')).getD [] := by
          have : ms.map U.int ++ U.int kk :: r' = ns.map U.int := by rw [eq, er]
          rw [show U.int kk :: r' = ((intsL (U.int kk :: r')).getD []).map U.int from tail_ints this] at this
          rw [← List.map_append] at this
          exact (map_int_inj1 this).symm
        have h2 := ddI_mono ms ((intsL (U.int kk :: r')).getD [])
        rw [← h1] at h2
        have : 100 < scanBound := by decide
        omega
      · have g6 : Go as as5 H H6 := by
          have e6 : H6 = upd H5 D (H6 D |>.get (Option.isSome_iff_ne_none.mpr hD6)) := by
            funext b
            by_cases z : b = D
            · subst z; rw [upd_same]; simp
            · rw [upd_ne z, hk6 b z]
          rw [e6]
          exact go_new (H1 := H) (((g2.trans gx).trans g3).trans g5) hD0
        exact ⟨us.length - (i + 1), by omega, rfl, hlt, as5, st5, ms ++ [kk], r', g6, l6, q6, by rw [List.map_append, List.append_assoc]; exact eq⟩
  · left
    have e : i = us.length := by omega
    subst e
    rw [List.drop_length] at q2
    cases q2
    rw [List.append_nil] at eq
    have en2 : ms = ns := map_int_inj1 (eq.trans er)
    subst en2
    have S9 : SDo F ((k0, [D]) :: os) as2 _ γ Hc σ δ := SDo.restore (g := []) (vs := vs) S no l2.S.unghost
    have S8 := S9.ungrow hkl
    exact ⟨W.stops _ as2 _ _ _ _ Hc l2.S, D, _, _, rfl, l2.a, h64, k _ Hc as2 g2 S8 rfl⟩
end
end UX
namespace UX
open PySem PySem.Spec PyProof.Rows L2
open EL (Ex RB BOk Bn TK)
inductive EvJs (F : Fr) (δ : Dl) : List TE → List (M U) → Prop where
  | nil : EvJs F δ [] []
  | cons {t : TE} {w : M U} {ts : List TE} {ws : List (M U)} (h : EvW F t δ w) (r : EvJs F δ ts ws) : EvJs F δ (t :: ts) (w :: ws)
section
variable {F : Fr} {δ : Dl} {te : TE} {wa : M U}
end
section
variable {F : Fr} {δ : Dl}
end
end UX
namespace UX
open PySem PySem.Spec PyProof.Rows L2
open EL (Ex RB BOk Bn TK rEqU rNeU rLtU iSeqU rLenQ)
section
variable {F : Fr} {os : Os} {as : SA} {st : Sto} {γ : List (U × V)} {H : Hp} {σ : L2.St} {δ : Dl}
end
section
variable {F : Fr} {S L : Type} {δ : Dl} {δn : S → Dl} {δl : L → Dl} {t2 : TS} {i : Nat} {Sh0 : Sh}
end
end UX
namespace UX
open PySem PySem.Spec PyProof.Rows L2 UY
open EL (Ex RB BOk Bn TK rListQ)
section
variable {G : Cxt} {rs : List Addr} {B : Bn} {H : Hp}
end
section
variable {F : Fr} {os : Os} {as : SA} {st : Sto} {γ : List (U × V)} {H : Hp} {σ : L2.St} {δ : Dl}
end
section
variable {F : Fr} {S L : Type} {δ : Dl} {wi : TI} {g : TG} {tb : TS} {wl : M (List U)} {δl : S → Dl} {δ2 : L → Dl}
end
end UX
namespace UX
open PySem PySem.Spec PyProof.Rows L2 UY
open EL (Ex RB BOk Bn TK)
section
variable {G : Cxt} {rs : List Addr} {B : Bn} {H : Hp}
end
section
variable {F : Fr}
end
section
variable {F : Fr}
end
section
variable {F : Fr} {δ : Dl} {i j l : Nat} {vs : List Nat}
end
end UX
namespace UY
open PySem PySem.Spec PyProof.Rows L2
section
variable {X : Cx}
end
end UY
namespace UX
open PySem PySem.Spec PyProof.Rows L2 UY
theorem TgOk.to {F : Fr} {g : TG} {vs : List Nat} {δ δ1 δ2 : Dl} {u : U} (h : TgOk F g vs δ u δ1) (e : δ1 = δ2) : TgOk F g vs δ u δ2 := e ▸ h
end UX
namespace SrtO
open PySem PyProof.Rows
section
variable {prog : Program} {w : World} {A : Around} {E : Value → Shared → Prop} {s : Shared}
end
end SrtO
namespace L2
open PySem PySem.Spec PyProof.Rows
section
variable {X : Cx}
end
end L2
namespace UX
open PySem PySem.Spec PyProof.Rows L2
open EL (Ex RB BOk Bn TK)
def RowsOkL (d : Nat) (L : List (List Int)) : Prop := 1 ≤ d ∧ ∀ ns ∈ L, ns.length = d ∧ TS.Bd B0 ns
instance (d : Nat) (L : List (List Int)) : Decidable (RowsOkL d L) := by unfold RowsOkL TS.Bd; infer_instance
section
variable {F : Fr}
end
end UX
namespace UX
open PySem PySem.Spec PyProof.Rows L2
end UX
namespace UX
open PySem PySem.Spec PyProof.Rows L2 UY
open EL (Ex RB BOk Bn TK rMulU rEqU)
def addIU : U → U → Option U
  | .int i, .int j => some (.int (i + j))
  | _, _ => none
section
variable {F : Fr}
def IpOk (ti : TIp) (f : U → U → Option U) : Prop := ∀ a b c, f a b = some c → ∃ i j k, a = .int i ∧ b = .int j ∧ c = .int k ∧ ∀ H (Q : VK), Q (.int k) H → ti (.int i) (.int j) H Q
theorem ip_okAdd : IpOk (ipI fun i j => i + j) addIU := fun a b c e => by
  cases a <;> cases b <;> simp [addIU] at e
  subst e; exact ⟨_, _, _, rfl, rfl, rfl, fun H Q q => ⟨_, _, rfl, rfl, q⟩⟩
end
section
variable {F : Fr} {S L : Type} {δ : Dl} {δn : S → Dl} {δl : L → Dl} {t2 : TS} {i : Nat} {Sh0 : Sh}
theorem blk_aug {u : U} {te : TE} {we : M U} {ti : TIp} {f : U → U → Option U} {k : U → M (Out S L)} (hf : IpOk ti f) (hi : δ[i]? = some (some (.im u))) (he : EvW F te δ we) (h2 : ∀ v, Blk F t2 (δ.set i (some (.im v))) (k v) δn δl) :
    Blk F (tSeq (tAug i te ti) t2) δ (.bind we fun y => .bind (.o (f u y)) k) δn δl := fun D os as st γ σ H o st' Q q P => by
  obtain ⟨y, st1, q1, q⟩ := M.bind_inv q
  obtain ⟨z, st2, q2, q⟩ := M.bind_inv q
  obtain ⟨ez, rfl⟩ := M.o_inv q2
  obtain ⟨a, b, c, rfl, rfl, rfl, hk⟩ := hf _ _ _ ez
  obtain ⟨v, e0, pv⟩ := Q.get hi
  cases (show v = _ from pv)
  refine ⟨_, e0, he os as st γ σ H _ _ Q q1 _ fun yv H1 as1 g1 S1 py => ?_⟩
  cases (show yv = _ from py)
  exact hk _ _ (h2 (.int c) D os as1 _ γ _ H1 o st' (S1.set (x := .im (.int c)) rfl) q P)
end
section
variable {F : Fr} {S L : Type} {δ : Dl} {i : Nat} {Sh0 : Sh} {te td tx : TE}
end
section
variable {F : Fr} {os : Os} {as : SA} {st : Sto} {γ : List (U × V)} {H : Hp} {σ : L2.St} {δ : Dl} {i : Nat} {A C : List Addr}
end
section
variable {F : Fr} {S L : Type} {δ : Dl} {δn : S → Dl} {δl : L → Dl} {t2 : TS} {i : Nat}
end
section
variable {F : Fr} {os : Os} {as : SA} {st : Sto} {γ : List (U × V)} {H : Hp} {σ : L2.St} {δ : Dl}
end
structure LSN (F : Fr) (s : Sh) (os : Os) (k0 : Nat) (D : Addr) (as : SA) (st : Sto) (γ : List (U × V)) (H : Hp) (σ : L2.St) (δ : Dl) (accU : List U) (A : List Addr) : Prop where
  S : SDo F ((k0, D :: A) :: os) as st γ H σ δ
  a : ∃ acc, H D = some (.lst acc) ∧ ownZ (fun _ => ownD F.G (rts as) (ban F ((k0, D :: A) :: os) as) s) 0 accU acc H A
section
variable {F : Fr} {os : Os} {as as' : SA} {st st' : Sto} {γ : List (U × V)} {H H' : Hp} {σ : L2.St} {δ : Dl} {k0 : Nat} {D : Addr} {accU : List U} {A : List Addr} {s : Sh}
theorem ownZ_go {s : Sh} {os : Os} {us : List U} {n : Nat} {vs : List V} {A : List Addr} (g : Go as as' H H') (h : ownZ (fun _ => ownD F.G (rts as) (ban F os as) s) n us vs H A) (k : ∀ a ∈ A, a ∉ fl as) (al : ∀ a ∈ A, H a ≠ none) : ownZ (fun _ => ownD F.G (rts as') (ban F os as') s) n us vs H' A :=
  ownZ_mono (fun n u v A1 hs ho => own_mono (fun _ _ h => im_go g h) (fun _ _ h => sqT_go g h) _ _ _ _ (fun a m => by
    cases e : H a with
    | none => exact absurd e (al a (hs a m))
    | some o => exact g.rb.keep a o (k a (hs a m)) e) ho) h
theorem LSN.go (l : LSN F s os k0 D as st γ H σ δ accU A) {σ' : L2.St} {δ' : Dl} (g : Go as as' H H') (S : SDo F ((k0, D :: A) :: os) as' st' γ H' σ' δ') : LSN F s os k0 D as' st' γ H' σ' δ' accU A := by
  obtain ⟨acc, e, h⟩ := l.a
  have nf : ∀ a ∈ D :: A, a ∉ fl as := fun a m q => (List.nodup_append.mp l.S.nd).2.2 a (List.mem_append_left _ m) a q rfl
  exact ⟨S, acc, g.rb.keep _ _ (nf D List.mem_cons_self) e, ownZ_go g h (fun a m => nf a (List.mem_cons_of_mem _ m)) fun a m => l.S.ok a (.inr (.inl (List.mem_append_left _ (List.mem_cons_of_mem _ m))))⟩
theorem LSN.push {k : Nat} {B : List Addr} (l : LSN F s os k0 D as st γ H σ δ accU A) (hk : δ.length ≤ k0) (hk1 : δ.length ≤ k) (hko : k0 ∉ os.map (·.1)) {u : U} {y : V} {as2 : SA} {st2 : Sto} {H2 : Hp} (g : Go as as2 H H2) (S2 : SDo F ((k, B) :: (k0, D :: A) :: os) as2 st2 γ H2 σ δ) (hB : ∀ a ∈ B, H a = none) (p : ownD F.G (rts as2) (ban F ((0, B) :: (k0, D :: A) :: os) as2) s u y H2 B) :
    ∃ acc, H2 D = some (.lst acc) ∧ acc.length = accU.length ∧ LSN F s os k0 D as2 st2 γ (upd H2 D (.lst (acc ++ [y]))) σ δ (accU ++ [u]) (A ++ B) := by
  obtain ⟨acc, e, h⟩ := l.a
  have nf : ∀ a ∈ D :: A, a ∉ fl as := fun a m q => (List.nodup_append.mp l.S.nd).2.2 a (List.mem_append_left _ m) a q rfl
  have al : ∀ a ∈ D :: A, H a ≠ none := fun a m => l.S.ok a (.inr (.inl (List.mem_append_left _ m)))
  have e2 : H2 D = some (.lst acc) := g.rb.keep _ _ (nf D List.mem_cons_self) e
  have h2 : ownZ (fun _ => ownD F.G (rts as2) (ban F ((k, B) :: (k0, D :: A) :: os) as2) s) 0 accU acc H2 A := by
    have h1 : ownZ (fun _ => ownD F.G (rts as) (ban F ((k, B) :: (k0, D :: A) :: os) as) s) 0 accU acc H A := ownZ_mono (fun n u v A1 hs ho => own_mono (fun _ _ z => im_sub (sub_cons hB) _ _ z) (fun _ _ z => z) _ _ _ _ (fun _ _ => rfl) ho) h
    exact ownZ_go (os := (k, B) :: (k0, D :: A) :: os) g h1 (fun a m => nf a (List.mem_cons_of_mem _ m)) fun a m => al a (List.mem_cons_of_mem _ m)
  have S3 := S2.merge (k := k0) hk hk1 hko
  have c : Chg F ((k0, (D :: A) ++ B) :: os) as2 H2 (upd H2 D (.lst (acc ++ [y]))) k0 ((D :: A) ++ B) ((D :: A) ++ B) D := chg_same List.mem_cons_self List.mem_cons_self S3 e2 (fun _ z => nomatch z) (fun _ _ z => nomatch z)
  have S4 := S3.mut c (x := none) (fun _ z => nomatch z)
  have so := setOs_same S3.ix (List.mem_cons_self (a := (k0, (D :: A) ++ B)) (l := os))
  rw [so, List.set_eq_of_length_le hk] at S4
  have bb : ∀ a, ban F ((k0, (D :: A) ++ B) :: os) as2 a → ban F ((k, B) :: (k0, D :: A) :: os) as2 a := fun a b => by
    rw [ban_cons, List.mem_append] at b
    rw [ban_cons, ban_cons]
    rcases b with (h | h) | h
    · exact .inr (.inl h)
    · exact .inl h
    · exact .inr (.inr h)
  have up : ∀ u v, im F.G (rts as2) (ban F ((k, B) :: (k0, D :: A) :: os) as2) u v H2 → im F.G (rts as2) (ban F ((k0, D :: (A ++ B)) :: os) as2) u v (upd H2 D (.lst (acc ++ [y]))) := fun u v h => by
    have h1 : im F.G (rts as2) (ban F ((k0, (D :: A) ++ B) :: os) as2) u v H2 := im_sub (fun a _ b => bb a b) _ _ h
    have := c.im h1
    rw [so] at this
    exact this
  have nd : ((D :: A) ++ B).Nodup := os_nodup _ (List.nodup_append.mp S3.nd).1 List.mem_cons_self
  have nD := (List.nodup_cons.mp (show (D :: (A ++ B)).Nodup from nd)).1
  have tt : ∀ c xs, H2 c = some (.tup xs) → (upd H2 D (.lst (acc ++ [y]))) c = some (.tup xs) := fun c xs h => by rw [upd_ne (fun e => by rw [e, e2] at h; cases h)]; exact h
  refine ⟨acc, e2, ownZ_len h, S4, acc ++ [y], upd_same, ?_⟩
  have hz := ownZ_mono (P' := fun _ => ownD F.G (rts as2) (ban F ((k0, D :: (A ++ B)) :: os) as2) s) (H' := upd H2 D (.lst (acc ++ [y]))) (fun n u v A1 hs ho => own_mono up tt _ _ _ _ (fun a m => upd_ne fun z => nD (z ▸ List.mem_append_left _ (hs a m))) ho) h2
  exact ownZ_snoc1 hz (own_mono up tt _ _ _ _ (fun a m => upd_ne fun z => nD (z ▸ List.mem_append_right _ m)) p)
end
section
variable {F : Fr} {δ : Dl} {wi : TI} {g : TG} {tt : TT} {te : TE} {vs : List Nat} {wl : M (List U)} {s : Sh}
end
section
variable {G : Cxt} {rs : List Addr} {B : Bn} {H : Hp}
end
section
variable {F : Fr} {δ : Dl} {te tk : TE}
end
mutual
def noL : U → Bool
  | .non => true
  | .bl _ => true
  | .int _ => true
  | .str _ => true
  | .top _ => true
  | .loc _ => true
  | .tup us => noLs us
  | _ => false
def noLs : List U → Bool
  | [] => true
  | u :: us => noL u && noLs us
end
section
variable {G : Cxt} {rs : List Addr} {B B' : Bn} {H : Hp}
mutual
theorem im_noL : ∀ (u : U) (v : V), noL u = true → im G rs B u v H → im G rs B' u v H
  | .non, _, _, h => h
  | .bl _, _, _, h => h
  | .int _, _, _, h => h
  | .str _, _, _, h => h
  | .top _, _, _, h => h
  | .loc _, _, _, h => h
  | .exc _, _, e, _ => by cases e
  | .exo _ _ _, _, e, _ => by cases e
  | .tup us, _, e, ⟨a, vs, e1, h, q⟩ => ⟨a, vs, e1, h, imAll_noL us vs e q⟩
  | .lst _, _, e, _ => by cases e
  | .dct _ _, _, e, _ => by cases e
  | .dcT _ _, _, e, _ => by cases e
  | .dcN _ _, _, e, _ => by cases e
  | .obj _ _ _, _, e, _ => by cases e
  | .frl _, _, e, _ => by cases e
theorem imAll_noL : ∀ (us : List U) (vs : List V), noLs us = true → imAll G rs B us vs H → imAll G rs B' us vs H
  | [], _, _, h => h
  | u :: us, _, e, ⟨v, r, ev, h1, h2⟩ => by
    have e' := Bool.and_eq_true_iff.mp (show (noL u && noLs us) = true from e)
    exact ⟨v, r, ev, im_noL u v e'.1 h1, imAll_noL us r e'.2 h2⟩
end
theorem leaf_noL {u : U} (h : noL u = true) : leafU u = true := by cases u <;> first | rfl | cases h
theorem leafs_noL : ∀ {us : List U}, noLs us = true → us.all leafU = true
  | [], _ => rfl
  | u :: us, e => by
    have e' := Bool.and_eq_true_iff.mp (show (noL u && noLs us) = true from e)
    exact Bool.and_eq_true_iff.mpr ⟨leaf_noL e'.1, leafs_noL e'.2⟩
def cellN : U → Bool
  | .lst us => noLs us
  | u => noL u
theorem ownC_noL {u : U} {v : V} {A : List Addr} (e : cellN u = true) (h : ownC G rs B u v H A) : ownC G rs B' u v H A := by
  cases u with
  | lst us =>
    have e : noLs us = true := e
    obtain ⟨a, vs, A', e1, e2, e3, z⟩ := (show ownF G rs B (.lst us) v H A from h)
    obtain ⟨zA, hv⟩ := (flat_ownFs (leafs_noL e)).mp z
    exact (show ownF G rs B' (.lst us) v H A from ⟨a, vs, A', e1, e2, e3, (flat_ownFs (leafs_noL e)).mpr ⟨zA, imAll_noL _ _ e hv⟩⟩)
  | obj _ _ _ => cases e
  | dct _ _ => cases e
  | dcT _ _ => cases e
  | dcN _ _ => cases e
  | frl _ => cases e
  | non => exact ⟨h.1, im_noL _ _ e h.2⟩
  | bl _ => exact ⟨h.1, im_noL _ _ e h.2⟩
  | int _ => exact ⟨h.1, im_noL _ _ e h.2⟩
  | str _ => exact ⟨h.1, im_noL _ _ e h.2⟩
  | tup _ => exact ⟨h.1, im_noL _ _ e h.2⟩
  | top _ => exact ⟨h.1, im_noL _ _ e h.2⟩
  | loc _ => exact ⟨h.1, im_noL _ _ e h.2⟩
  | exc _ => cases e
  | exo _ _ _ => cases e
theorem StOk.noL : ∀ {as : SA} {st : Sto}, st.all cellN = true → StOk G B rs as st H → StOk G B' rs as st H
  | [], [], _, _ => trivial
  | p :: as, u :: st, e, ⟨h1, h2⟩ => by
    have e' := Bool.and_eq_true_iff.mp (show (cellN u && st.all cellN) = true from e)
    exact ⟨ownC_noL e'.1 h1, StOk.noL e'.2 h2⟩
  | [], _ :: _, _, h => h.elim
  | _ :: _, [], _, h => h.elim
end
section
variable {F : Fr} {δ : Dl}
theorem im_goA {os : Os} {as as' : SA} {H H' : Hp} {A' : List Addr} {k : Nat} (g : Go as as' H H') (fr : ∀ a ∈ A', H a = none) {u : U} {v : V} (h : im F.G (rts as) (ban F os as) u v H) : im F.G (rts as') (ban F ((k, A') :: os) as') u v H' :=
  im_go g (im_sub (sub_cons fr) _ _ h)
theorem SDo.back {os : Os} {as as' : SA} {st st' : Sto} {γ : List (U × V)} {H H' : Hp} {σ : L2.St} {i k k0 : Nat} {A' : List Addr} {δ' : Dl} (S : SDo F os as st γ H σ δ) (g : Go as as' H H') (fr : ∀ a ∈ A', H a = none)
    (S2 : SDo F ((k0, A') :: os.filter fun q => decide (q.1 ≠ i)) as' st' γ H' σ δ') (cn : st'.all cellN = true) (hk : k ∉ os.map (·.1)) : SDo F ((k, A') :: os) as' st' γ H' σ δ := by
  have al : ∀ a ∈ flo os, H' a ≠ none := fun a m => g.alive (S.ok a (.inr (.inl m)))
  have nd2 := List.nodup_append.mp S2.nd
  have ndA : A'.Nodup := (List.nodup_append.mp (show (A' ++ flo _).Nodup from nd2.1)).1
  have dj : ∀ a ∈ flo os, a ∉ fl as' := fun a m q => by
    rcases g.new a q with z | z
    · exact (List.nodup_append.mp S.nd).2.2 a m a z rfl
    · exact S.ok a (.inr (.inl m)) z
  have djA : ∀ a ∈ A', a ∉ fl as' := fun a m q => nd2.2.2 a (List.mem_append_left _ m) a q rfl
  have djO : ∀ a ∈ A', a ∉ flo os := fun a m q => S.ok a (.inr (.inl q)) (fr a m)
  refine ⟨fun p m => im_goA g fr (S.gh p m), S.rel.trans g, fun a b => ?_, ?_, List.nodup_cons.mpr ⟨hk, S.ix⟩, fun a m => ?_, fun a z b => ?_, StOk.noL cn S2.sto, S.len, fun j s e => ?_⟩
  · rcases ban_cons.mp b with b | b | b | b
    · exact S2.ok a (.inr (.inl (List.mem_append_left _ b)))
    · exact g.alive (S.ok a (.inl b))
    · exact al a b
    · exact S2.ok a (.inr (.inr b))
  · show (A' ++ flo os ++ fl as').Nodup
    refine List.nodup_append.mpr ⟨List.nodup_append.mpr ⟨ndA, (List.nodup_append.mp S.nd).1, fun a m b mb e => djO a m (e ▸ mb)⟩, nd2.2.1, fun a m b mb e => ?_⟩
    subst e
    rcases List.mem_append.mp m with m | m
    · exact djA a m mb
    · exact dj a m mb
  · rcases List.mem_append.mp (show a ∈ A' ++ flo os from m) with m | m
    · exact S.rel.fresh (fr a m)
    · exact S.new a m
  · rcases z with z | z
    · rcases List.mem_append.mp (show a ∈ A' ++ flo os from z) with m | m
      · exact S.ok a (.inl b) (fr a m)
      · exact S.nb a (.inl m) b
    · rcases g.new a z with q | q
      · exact S.nb a (.inr q) b
      · exact S.ok a (.inl b) q
  · obtain ⟨v, h1, h2⟩ := S.at_ j s e
    refine ⟨v, h1, ?_⟩
    match s, h2 with
    | .im u, h2 => exact im_goA g fr h2
    | .raw _, h2 => exact h2
    | .own sh u, ⟨B, m, h2⟩ =>
      refine ⟨B, List.mem_cons_of_mem _ m, own_mono (fun _ _ h => im_goA g fr h) (fun _ _ h => sqT_go g h) _ _ _ _ (fun a z => ?_) h2⟩
      cases e : H a with
      | none => exact absurd e (S.ok a (.inr (.inl (mem_flo m z))))
      | some o => exact g.rb.keep a o (fun q => (List.nodup_append.mp S.nd).2.2 a (mem_flo m z) a q rfl) e
end
section
variable {F : Fr} {δ : Dl} {i : Nat} {s : Sh} {d : U} {ty : TE} {wk : M U}
end
section
open PySem.Calls PyProof.V
variable {prog : Program} {w : World} {K K' : Type} [DecidableEq K] [DecidableEq K'] {knd : HeapKind prog w K} {knb : KeyKind prog w K'} {A : Around} {E : Value → Shared → Prop} {s : Shared}
end
section
variable {F : Fr}
end
end UX
namespace UY
open PySem PySem.Spec PyProof.Rows L2
section
variable {X : Cx}
end
end UY
namespace UX
open PySem PySem.Spec PyProof.Rows L2 UY
open EL (Ex RB BOk Bn TK)
section
variable {F : Fr} {S L : Type} {δ : Dl} {δn : S → Dl} {δl : L → Dl} {t2 : TS} {i : Nat} {tx : TE}
end
end UX
namespace UY
open PySem PySem.Spec PyProof.Rows L2 UX
open EL (Ex RB BOk Bn TK)
def ixD : List PyData → PyData → Option Nat
  | [], _ => none
  | z :: ds, d => if PyData.eqv z d = true then some 0 else (ixD ds d).map (· + 1)
def indexU (a b : U) : Option U := match a, pd a, pd b with
  | .lst _, some (.list ds), some d => if SeqAt.shaped (.list ds) = true ∧ SeqAt.shaped d = true then (ixD ds d).map fun j => .int (j : Nat) else none
  | _, _, _ => none
section
variable {F : Fr} {δ : Dl} {ta tb : TE} {wa wb : M U}
end
end UY
namespace UY
open PySem PySem.Spec PyProof.Rows L2
end UY
namespace UX
open PySem PySem.Spec PyProof.Rows L2 UY
open EL (Ex RB BOk Bn TK)
section
variable {F : Fr} {os : Os} {as as' : SA} {st st' : Sto} {γ : List (U × V)} {H H' : Hp} {σ : L2.St} {δ : Dl} {d : Addr} {u0 : HO} {od : Obj}
end
section
variable {F : Fr} {S L : Type} {δ : Dl} {g : TG} {tb : TS} {td : TE} {wd : M U} {δ2 : L → Dl}
end
end UX
namespace UY
open PySem PySem.Spec PyProof.Rows L2 UX
open EL (Ex RB BOk Bn TK)
section
variable {X : Cx}
end
section
variable {F : Fr}
end
end UY
namespace UY
open PySem PySem.Spec PyProof.Rows L2 UX
open EL (Ex RB BOk Bn TK rSlU cut)
section
variable {X : Cx}
end
section
variable {F : Fr}
end
section
variable {F : Fr} {δ : Dl} {te : TE} {wa : M U}
end
end UY
namespace UX
open PySem PySem.Spec PyProof.Rows L2
open EL (Ex RB BOk Bn TK FnG okG)
def exU (c : Str) : U := .dct [.inr c] []
def exO (c f : Str) (u : U) : U := .dct [.inr c, .inr f] [u]
def unEx : U → Option U
  | .dct [.inr c] [] => some (.str c)
  | .dct [.inr c, .inr f] [u] => some (.exo c f u)
  | _ => none
def mkEx : U → U
  | .str c => exU c
  | .exo c f u => exO c f u
  | _ => .non
def erc : U → Str
  | .str c => c
  | .exo c _ _ => c
  | _ => ""
def kpt : U → U
  | .str c => .exc c
  | u => u
theorem im_ex {G : Cxt} {rs : List Addr} {B : Bn} {u e : U} {v : V} {H : Hp} (h : unEx u = some e) : ¬ im G rs B u v H := by
  unfold unEx at h
  split at h
  · rintro ⟨a, vs, _, _, _, l, _⟩
    exact nomatch l
  · rintro ⟨a, vs, _, _, _, l, _⟩
    exact nomatch l
  · cases h
def ErIm (G : Cxt) (rs : List Addr) (B : Bn) (H : Hp) : U → Value → Option Addr → Prop
  | .str c, cls, d => cls = .ref (G.at_ c) ∧ d = none
  | .exo c f u, cls, d => cls = .ref (G.at_ c) ∧ ∃ dd w, d = some dd ∧ ¬ B dd ∧ Rd H dd (.xd [(f, w)]) ∧ im G rs B u w H
  | _, _, _ => False
theorem erIm_un {G : Cxt} {rs : List Addr} {B : Bn} {H : Hp} {e : U} {cls : Value} {d : Option Addr} (h : ErIm G rs B H e cls d) : unEx (mkEx e) = some e := by
  cases e with
  | str c => rfl
  | exo c f u => rfl
  | _ => exact h.elim
theorem erIm_cls {G : Cxt} {rs : List Addr} {B : Bn} {H : Hp} {e : U} {cls : Value} {d : Option Addr} (h : ErIm G rs B H e cls d) : cls = .ref (G.at_ (erc e)) := by
  cases e with
  | str c => exact h.1
  | exo c f u => exact h.1
  | _ => exact h.elim
theorem erIm_sub {G : Cxt} {rs : List Addr} {B B' : Bn} {H : Hp} {e : U} {cls : Value} {d : Option Addr} (s : ∀ a, H a ≠ none → B' a → B a) (h : ErIm G rs B H e cls d) : ErIm G rs B' H e cls d := by
  cases e with
  | str c => exact h
  | exo c f u =>
    obtain ⟨h1, dd, w, h2, h3, h4, h5⟩ := h
    exact ⟨h1, dd, w, h2, fun b => h3 (s dd (rd_ne h4) b), h4, im_sub s _ _ h5⟩
  | _ => exact h.elim
def fnX (w : M (Out Unit Unit)) : M U := fun st => match w st with
  | some (.ok (.rt u), st1) => (match unEx u with
    | some e => some (.er e, st1)
    | none => some (.ok u, st1))
  | some (.ok (.nx _), st1) => some (.ok .non, st1)
  | _ => none
def callX (f : List U → M U) (wa : M (List U)) : M U := fun st => match wa st with
  | some (.ok us, st1) => f us st1
  | _ => none
def exB {α S L : Type} (w : M α) (k : α → M (Out S L)) : M (Out S L) := fun st => match w st with
  | some (.ok a, st1) => k a st1
  | some (.er e, st1) => some (.ok (.rt (mkEx e)), st1)
  | _ => none
structure RtE (F : Fr) (as : SA) (st : Sto) (H : Hp) (e : U) (cls : Value) (d : Option Addr) : Prop where
  rel : Go F.as0 as F.H0 H
  ok : BOk (ban F [] as) H
  nd : (fl as).Nodup
  nb : ∀ a ∈ fl as, ¬ F.B a
  sto : StOk F.G (ban F [] as) (rts as) as st H
  pay : ErIm F.G (rts as) (ban F [] as) H e cls d
section
variable {F : Fr} {os : Os} {as as' : SA} {st st' : Sto} {γ : List (U × V)} {H H' : Hp} {σ : L2.St} {δ : Dl}
theorem SDo.rtE {e : U} {cls : Value} {d : Option Addr} (S : SDo F os as st γ H σ δ) (p : ErIm F.G (rts as) (ban F os as) H e cls d) : RtE F as st H e cls d :=
  ⟨S.rel, fun a b => S.ok a (b.elim .inl fun b => b.elim (fun z => nomatch z) fun z => .inr (.inr z)), (List.nodup_append.mp S.nd).2.1, fun a m => S.nb a (.inr m), StOk.mono (fun _ _ h => im_nil h) (fun _ _ h => h) (fun _ _ => rfl) S.sto,
   erIm_sub (fun a _ b => b.elim .inl fun b => b.elim (fun z => nomatch z) fun z => .inr (.inr z)) p⟩
theorem SDo.leaveE {e : U} {cls : Value} {d : Option Addr} (S : SDo F os as st γ H σ δ) (r : RtE ⟨F.G, fun a => F.B a ∨ a ∈ flo os, H, as, noR⟩ as' st' H' e cls d) : SDo F os as' st' γ H' σ δ ∧ ErIm F.G (rts as') (ban F os as') H' e cls d := by
  have e : ∀ a, ban F os as' a → ban ⟨F.G, fun a => F.B a ∨ a ∈ flo os, H, as, noR⟩ [] as' a := by
    rintro a (h | h | h)
    · exact .inl (.inl h)
    · exact .inl (.inr h)
    · exact .inr (.inr h)
  exact ⟨S.go r.rel r.nd (StOk.mono (fun _ _ h => im_sub (fun a _ b => e a b) _ _ h) (fun _ _ h => h) (fun _ _ => rfl) r.sto) fun a m => r.ok a (.inr (.inr m)), erIm_sub (fun a _ b => e a b) r.pay⟩
end
def spX (G : Cxt) (f : List U → M U) : Sp := fun vs H Q E => ∃ (B : Bn) (as : SA) (st : Sto) (us : List U) (r : Res U) (st' : Sto),
  BOk (ban ⟨G, B, H, as, noR⟩ [] as) H ∧ (fl as).Nodup ∧ (∀ a ∈ fl as, ¬ B a) ∧ StOk G (ban ⟨G, B, H, as, noR⟩ [] as) (rts as) as st H ∧ imAll G (rts as) (ban ⟨G, B, H, as, noR⟩ [] as) us vs H ∧ f us st = some (r, st') ∧
  match r with
  | .ok u => ∀ as' v H', Rt ⟨G, B, H, as, noR⟩ as' st' H' u v → Q v H'
  | .er e => ∀ as' H' cls d, RtE ⟨G, B, H, as, noR⟩ as' st' H' e cls d → E cls d H'
def PostX (F : Fr) {S L : Type} (D : Ends) (W : WX) (γ : List (U × V)) (st : Sto) (δn : S → Dl) (δl : L → Dl) (δx : Dl) : Out S L → Prop
  | .nx s => ∀ os as σ H, SDo F os as st γ H σ (δn s) → D.nx σ H
  | .rt u => match unEx u with
    | some e => ∀ os as σ H cls d, SDo F os as st γ H σ δx → ErIm F.G (rts as) (ban F os as) H e cls d → W cls d σ H
    | none => ∀ as v H, Rt F as st H u v → D.rt v H
  | .bk l => ∀ os as σ H, SDo F os as st γ H σ (δl l) → D.bk σ H
  | .ct l => ∀ os as σ H, SDo F os as st γ H σ (δl l) → D.ct σ H
def BlkX (F : Fr) (W : WX) {S L : Type} (t : TS) (δ : Dl) (w : M (Out S L)) (δn : S → Dl) (δl : L → Dl) (δx : Dl) : Prop := ∀ D os as st γ σ H o st', SDo F os as st γ H σ δ → w st = some (.ok o, st') → PostX F D W γ st' δn δl δx o → t D σ H
def EvRs (F : Fr) (W : WX) (te : TE) (δ : Dl) (w : M U) : Prop := ∀ os as st γ σ H r st', SDo F os as st γ H σ δ → w st = some (r, st') → ∀ QQ : VK, (match r with
  | .ok a => ∀ v H' as', Go as as' H H' → SDo F os as' st' γ H' σ δ → im F.G (rts as') (ban F os as') a v H' → QQ v H'
  | .er e => ∀ H' as' cls d, Go as as' H H' → SDo F os as' st' γ H' σ δ → ErIm F.G (rts as') (ban F os as') H' e cls d → W cls d σ H') → te σ H QQ
theorem postX_er {F : Fr} {S L : Type} {D : Ends} {W : WX} {γ : List (U × V)} {st : Sto} {δn : S → Dl} {δl : L → Dl} {δx : Dl} {e : U} (P : PostX F D W γ st δn δl δx (.rt (mkEx e))) {os : Os} {as : SA} {σ : L2.St} {H : Hp} {cls : Value} {d : Option Addr} (q : SDo F os as st γ H σ δx) (p : ErIm F.G (rts as) (ban F os as) H e cls d) : W cls d σ H := by
  have P : (match unEx (mkEx e) with | some c => _ | none => _) := P
  rw [erIm_un p] at P
  exact P os as σ H cls d q p
section
variable {F : Fr} {W : WX} {S S1 L : Type} {δ δx : Dl} {te ta tb : TE} {tt : TT} {w wa wb : M U} {wt : M Bool} {t t1 t2 u1 : TS} {δn : S → Dl} {δ1 : S1 → Dl} {δl : L → Dl}
theorem Blk.x {wo : M (Out S L)} (h : Blk F t δ wo δn δl) : BlkX F W t δ wo δn δl δx := fun D os as st γ σ H o st' Q q P => h D os as st γ σ H o st' Q q (by
  cases o with
  | nx s => exact P
  | bk l => exact P
  | ct l => exact P
  | rt u =>
    intro as v H r
    cases e : unEx u with
    | none =>
      have P : (match unEx u with | some c => _ | none => _) := P
      rw [e] at P
      exact P as v H r
    | some c =>
      exact absurd r.im (im_ex e))
theorem blkx_seq {w1 : M (Out S1 L)} {w2 : S1 → M (Out S L)} (h1 : BlkX F W t1 δ w1 δ1 δl δx) (h2 : ∀ s, BlkX F W t2 (δ1 s) (w2 s) δn δl δx) : BlkX F W (tSeq t1 t2) δ (seqO w1 w2) δn δl δx := fun D os as st γ σ H o st' Q q P => by
  obtain ⟨o1, st1, q1, q⟩ := M.bind_inv q
  refine h1 _ os as st γ σ H o1 st1 Q q1 ?_
  cases o1 with
  | nx s => exact fun os2 as2 σ2 H2 S2 => h2 s D os2 as2 st1 γ σ2 H2 o st' S2 q P
  | rt u => cases q; exact P
  | bk l => cases q; exact P
  | ct l => cases q; exact P
theorem blkx_if {wo wu : M (Out S L)} (h : EvT F tt δ wt) (h1 : BlkX F W t1 δ wo δn δl δx) (h2 : BlkX F W t2 δ wu δn δl δx) : BlkX F W (tIfS tt t1 t2) δ (iteW wt wo wu) δn δl δx := fun D os as st γ σ H o st' Q q P => by
  obtain ⟨b, st1, qb, q⟩ := M.bind_inv q
  refine h os as st γ σ H b _ Q qb _ fun H1 as1 g1 S1 => ?_
  cases b with
  | true => exact h1 D os as1 st1 γ σ H1 o st' S1 q P
  | false => exact h2 D os as1 st1 γ σ H1 o st' S1 q P
theorem blkx_set {i : Nat} {k : U → M (Out S L)} (h : EvRs F W te δ w) (hw : Weak δ δx) (h2 : ∀ u, BlkX F W t2 (δ.set i (some (.im u))) (k u) δn δl δx) : BlkX F W (tSeq (tAsg te (gName i)) t2) δ (exB w k) δn δl δx := fun D os as st γ σ H o st' Q q P => by
  cases e : w st with
  | none => unfold exB at q; rw [e] at q; cases q
  | some p =>
    obtain ⟨r, st1⟩ := p
    refine h os as st γ σ H r st1 Q e _ ?_
    unfold exB at q
    rw [e] at q
    match r, q with
    | .ok a, q => exact fun v H1 as1 g1 S1 p => h2 a D os as1 st1 γ _ H1 o st' (S1.set p) q P
    | .er e, q => cases q; exact fun H1 as1 cls d g1 S1 p => postX_er P (S1.weak hw) p
theorem blkx_ret (h : EvRs F W te δ w) (hw : Weak δ δx) (hR : F.R = noR := by rfl) : BlkX F W (tRet te) δ (exB w fun u => .ret (.rt u) : M (Out S L)) δn δl δx := fun D os as st γ σ H o st' Q q P => by
  cases e : w st with
  | none => unfold exB at q; rw [e] at q; cases q
  | some p =>
    obtain ⟨r, st1⟩ := p
    refine h os as st γ σ H r st1 Q e _ ?_
    unfold exB at q
    rw [e] at q
    match r, q with
    | .ok a, q =>
      cases q
      intro v H1 as1 g1 S1 p
      cases e2 : unEx a with
      | none =>
        have P : (match unEx a with | some c => _ | none => _) := P
        rw [e2] at P
        exact P as1 v H1 (S1.rt (im_nil p) (by rw [hR]; trivial))
      | some c =>
        exact absurd p (im_ex e2)
    | .er e, q => cases q; exact fun H1 as1 cls d g1 S1 p => postX_er P (S1.weak hw) p
theorem blkx_expr {k : M (Out S L)} (h : EvRs F W te δ w) (hw : Weak δ δx) (h2 : BlkX F W t2 δ k δn δl δx) : BlkX F W (tSeq (tDrop te) t2) δ (exB w fun _ => k) δn δl δx := fun D os as st γ σ H o st' Q q P => by
  cases e : w st with
  | none => unfold exB at q; rw [e] at q; cases q
  | some p =>
    obtain ⟨r, st1⟩ := p
    refine h os as st γ σ H r st1 Q e _ ?_
    unfold exB at q
    rw [e] at q
    match r, q with
    | .ok a, q => exact fun v H1 as1 g1 S1 p => h2 D os as1 st1 γ _ H1 o st' S1 q P
    | .er e, q => cases q; exact fun H1 as1 cls d g1 S1 p => postX_er P (S1.weak hw) p
theorem evx_call {f : List U → M U} {ta : TA} {wa : M (List U)} (h : EvAW F ta δ wa) : EvRs F W (tCallS (spX F.G f) (WE W) ta) δ (callX f wa) := fun os as st γ σ H r st' S q QQ k => by
  cases e : wa st with
  | none => unfold callX at q; rw [e] at q; cases q
  | some p =>
    obtain ⟨r1, st1⟩ := p
    unfold callX at q
    rw [e] at q
    match r1, q with
    | .ok us, q =>
      refine h os as st γ σ H us st1 S e _ fun vs H1 as1 g1 S1 pv => ?_
      obtain ⟨ok, nb, eb⟩ := S1.enter
      refine ⟨fun a => F.B a ∨ a ∈ flo os, as1, st1, us, r, st', ok, (List.nodup_append.mp S1.nd).2.1, nb, StOk.mono (fun _ _ h => im_sub (fun a _ b => (eb a).mp b) _ _ h) (fun _ _ h => h) (fun _ _ => rfl) S1.sto, imAll_sub (fun a _ b => (eb a).mp b) _ _ pv, q, ?_⟩
      match r, k with
      | .ok c, k =>
        intro as' v H' r
        obtain ⟨S2, p⟩ := S1.leave r
        exact k v H' as' (g1.trans r.rel) S2 p
      | .er e, k => exact fun as' H' cls d r => k H' as' cls d (g1.trans r.rel) (S1.leaveE r).1 (S1.leaveE r).2
end
section
variable {P : Program} {w : World} {K : PySem.W.Frag} {mg : Str → Option Value} {bs : Heap} {x qu : Str} {pa : Arguments} {bo : List Stmt} {sc : Scope} {dv : List V} {kw : List (Str × V)} {f : Addr} {fd : FuncData}
end
section
variable {X : Cx} {CX : CXT} {k : Nat} {f : Addr} {fd : FuncData} {ps : List Str} {sp : Sp} {E : L2.St → XK} {x : Str} {p pos : Pos} {e : Expr} {es : List Expr} {t : TA}
end
section
variable {F : Fr} {S L : Type} {δ δx : Dl} {δn : S → Dl} {δl : L → Dl}
end
end UX
namespace L2
open PySem PySem.Spec PyProof.Rows
section
variable {X : Cx} {pins : List (Addr × Obj)} {σ : L2.St} {H : Hp} {s : Shared} {a C : Addr} {oe : Obj} {vs : Array Value}
theorem Inv.adopt (I : Inv X pins σ H s) (hex : X.ex = []) (n0 : X.s_0.heap.get? a = none) (na : H a = none) (ha : s.heap.get? a = some oe) {d : Option Addr} (hz : oe.cls = .ref C ∧ oe.dict = d) (hd : oe.data = .fields vs) (nL : a ≠ X.env.locals) (nP : ∀ p ∈ X.pn ++ pins, p.1 ≠ a) :
    Inv X pins σ (upd H a (UX.ExKo C a d)) s := by
  have ne0 : ∀ b o, X.s_0.heap.get? b = some o → b ≠ a := fun b o e z => by rw [z, n0] at e; cases e
  have neH : ∀ b u, H b = some u → b ≠ a := fun b u e z => by rw [z, na] at e; cases e
  refine ⟨I.ok, I.os, I.bare, ⟨I.base.keep, I.base.slot, fun b o e n hx => ?_, I.base.there, fun b xs e => ?_, fun b o u e => ?_, fun b ps e => ?_⟩, I.loc, I.cell, ?_, fun x c e => ?_, fun p hp => ?_, ?_, I.len⟩
  · rw [upd_ne (ne0 b o e)]; exact I.base.free b o e n hx
  · have q := I.base.tups b xs e
    rw [upd_ne (neH b _ q)]; exact q
  · have q := I.base.frzs b o u e
    rw [upd_ne (neH b _ q)]; exact q
  · obtain ⟨m, q⟩ := I.base.tbls b ps e
    exact ⟨m, by rw [upd_ne (neH b _ q)]; exact q⟩
  · rw [upd_ne (Ne.symm nL)]; exact I.free
  · have : c ≠ a := fun z => by
      obtain ⟨v, o, ho, hc⟩ := I.cell x c e
      rw [z, ha] at ho
      cases ho
      rw [hd] at hc
      cases hc
    rw [upd_ne this]; exact I.freeC x c e
  · obtain ⟨e, n, ne, nf, d⟩ := I.pin p hp
    exact ⟨e, by rw [upd_ne (nP p hp)]; exact n, ne, nf, d⟩
  · cases d with
    | none => exact I.hok.laidN (fun _ _ q => q) na ⟨⟨oe, vs, ha, hz, hd⟩, ⟨oe, ha⟩, fun _ _ ⟨o, v, q, r⟩ k => ⟨o, v, k o q, r⟩⟩
    | some dd => exact I.hok.laidN (fun _ _ q => q) na ⟨⟨oe, vs, ha, hz, hd⟩, ⟨oe, ha⟩, fun _ _ ⟨o, v, q, r⟩ k => ⟨o, v, k o q, r⟩⟩
end
def wKeep (K : PySem.W.Frag) (c : Value) (i j : Nat) (Wout : WX) (D : Ends) : WX := fun cls d σ H =>
  ∃ b, PySem.W.exmOne K cls c = some b ∧ (b = true → ∃ C, cls = .ref C ∧ ∀ a, H a = none → D.nx ((σ.set j (some (.ref a))).set i none) (upd H a (UX.ExKo C a d))) ∧ (b = false → Wout cls d σ H)
section
variable {X : Cx} {x n y : Str} {c : Value} {i j : Nat} {body : List Stmt} {np pos pos' py pn' pa : Pos} {tb : WX → TS} {Wout : WX}
theorem ps_try_keep (hs : X.stack = X.env :: X.outer) (hf : X.env.frame = some X.env.locals) (hex : X.ex = []) (hN : X.N.Nodup) (hi : X.N[i]? = some n) (hln : X.env.kindOf n = some .local) (hj : X.N[j]? = some y) (hlj : X.env.kindOf y = some .local) (hij : i ≠ j) (hdn : (n == ("__debug__" : Str)) = false) (hcn : (n == ("__classdict__" : Str)) = false) (hc : Names X x c) (tk : Takes X Wout)
    (hb : ∀ (W : WX) (pn : List (Addr × Obj)) (xe : Value → Shared → Prop), Takes (X.tr pn xe) W → PassesOwn (model X.prog X.w) X.A X.env xe → PSs (X.tr pn xe) body (tb W)) :
    PS X (.Try body [.ExceptHandler (some (.Name x np)) (some n) [.Assign [.Name y py] (.Name n pn') pa] pos'] [] [] pos) (fun D σ H => tb (wKeep X.K c i j Wout D) D σ H) := by
  refine ⟨fun pins s σ H D I h => ?_⟩
  have ok := I.ok
  have hfr : X.A.frames = some (X.env :: X.outer) := by rw [ok.frames, hs]
  have hloc : Loc X.env.scope n := .inl hln
  have hlocj : Loc X.env.scope y := .inl hlj
  refine wpAny_Try_except ?_
  refine wpAny_mono ((hb (wKeep X.K c i j Wout D) (X.pn ++ pins) (fun e s₁ => wpAny (model X.prog X.w) X.A (noteFrame e X.env) (fun _ s₂ => wpAny (model X.prog X.w) X.A (setFlight e none) (fun _ s₃ =>
    wpAny (model X.prog X.w) X.A (handleBy e X.env [.ExceptHandler (some (.Name x np)) (some n) [.Assign [.Name y py] (.Name n pn') pa] pos']) (SP X pins D) X.xe s₃) X.xe s₂) X.xe s₁) (fun u s' xx => ?_) PassesOwn.looking).run [] s σ H D (I.toTry _) h) (fun f s1 hsp => ?_) (fun e s1 he => he)
  · -- the catch
    obtain ⟨a, B, sI, pins', σ', H', cls, d, rfl, J', nb, up, sky, na, os, ag, b, hb1, hyes, hno⟩ := xx
    have J : Inv X pins σ' H' sI := J'.ofTry ok
    have sky' : Sky B (X.env :: X.outer) a (Zc cls d) X.env.locals s'.heap := by rw [← hs]; exact sky
    show wpAny (model X.prog X.w) X.A (noteFrame (.ref a) X.env) _ _ _
    refine Sky.land Zc.steady hfr hf sky' fun h3 fl3 up3 => ?_
    have J3 : Inv X pins σ' H' { s' with heap := h3 } := J.landed nb fl3.1 (up.trans up3) os ag
    obtain ⟨oe3, vs3, he3, hz3, hd3⟩ := fl3.there
    have notFr : ∀ {h : Heap} {o : Obj} {vs : Array Value}, h.FunFrames B (X.env :: X.outer) → h.get? a = some o → o.data = .fields vs → a ∉ frs (X.env :: X.outer) := fun {h o vs} ff e dd hm => by
      obtain ⟨_, o', e', hnf⟩ := ff.mem hm
      rw [e] at e'; cases e'
      exact hnf _ dd
    have nfr := notFr fl3.2.2.1 he3 hd3
    have nL : a ≠ X.env.locals := fun z => nfr (List.mem_filterMap.mpr ⟨X.env, List.mem_cons_self, by rw [hf, z]⟩)
    have nF : a ∉ X.fs := fun hm => by
      obtain ⟨e, he, q⟩ := List.mem_filterMap.mp hm
      exact nfr (List.mem_filterMap.mpr ⟨e, List.mem_cons_of_mem _ he, q⟩)
    -- the error is none of what was there
    have nI : sI.heap.get? a = none := by
      cases e : sI.heap.get? a with
      | none => rfl
      | some o =>
        have z := nb a o e (by rw [hs]; exact nfr)
        rw [fl3.2.1] at z
        cases z
    have n0 : X.s_0.heap.get? a = none := by
      cases e : X.s_0.heap.get? a with
      | none => rfl
      | some o =>
        obtain ⟨o', z⟩ := J.base.there a o e (by rw [hex]; exact fun z => nomatch z)
        rw [nI] at z
        cases z
    have nP : ∀ p ∈ X.pn ++ pins, p.1 ≠ a := fun p hp z => by
      have q := (J.pin p hp).1
      rw [z, nI] at q
      cases q
    have S3 := J3.suite he3 hd3 na nL nF
    refine wpAny_handleBy_cons (codeAny_handlers_test ?_) (by intro q; cases q)
    have LT : PySem.W.Looks (model X.prog X.w) h3 (typeOf (.ref a)) cls := fun A Q E s k q => wpAny_typeOf_ref (k _ _ he3) (by rw [hz3.1]; exact q)
    have LM := PySem.W.exm_one (M := model X.prog X.w) (J3.kIn) LT hb1
    have test : ∀ {Q : Value → Shared → Prop} {E : Value → Shared → Prop}, Q c { s' with heap := h3 } → wpAny (model X.prog X.w) (X.A.mark (some (.ref a))) (eval (.Name x np) X.env) Q E { s' with heap := h3 } := fun {Q E} q => by
      obtain ⟨hg, hdbg, hm | ⟨hm, hv, hnn⟩⟩ := hc
      · exact ld_glob (X := X.suite a ((a, oe3) :: (X.pn ++ pins))) S3 hg hm q hdbg
      · exact ld_blt (X := X.suite a ((a, oe3) :: (X.pn ++ pins))) S3 hg hm hv q hnn hdbg
    refine test (LM.here ?_)
    cases b with
    | true =>
      obtain ⟨C, ec, hy2⟩ := hyes rfl
      subst ec
      refine codeAny_handlers_suite_as ?_
      refine HandSPX.lands_againZ fl3 fun h4 fl4 up4 => ?_
      have J4 : Inv X pins σ' H' { s' with heap := h4 } := J.landed nb fl4.1 ((up.trans up3).trans up4) os ag
      obtain ⟨oe4, vs4, he4, hz4, hd4⟩ := fl4.there
      have S4 := J4.suite he4 hd4 na nL nF
      refine store_ok (X := X.suite a ((a, oe4) :: (X.pn ++ pins))) (v := .ref a) S4 hN hi hloc rfl (fun s5 S5 => ?_) (.inr hln)
      have hsu : PSs (X.suite a ((a, oe4) :: (X.pn ++ pins))) [.Assign [.Name y py] (.Name n pn') pa] (tAsg (tVar i) (gName j)) := pss_one (ps_set (X := X.suite a ((a, oe4) :: (X.pn ++ pins))) (i := j) hN hj hlocj (pe_var hi (.inl hln) hdn hcn) rfl (.inr hlj))
      refine wpAny_mono (hsu.run [] s5 _ H' ⟨fun σ6 H6 => σ6 = (σ'.set i (some (.ref a))).set j (some (.ref a)) ∧ H6 = H', fun _ _ => False, fun _ _ => False, fun _ _ => False⟩ S5 ⟨.ref a, ?_, rfl, rfl⟩) (fun f s6 hsp => ?_) (fun _ _ z => False.elim z)
      · have hlt : i < σ'.length := by
          rw [J.len]
          exact (List.getElem?_eq_some_iff.mp hi).1
        rw [List.getElem?_set_self hlt]
      · cases f with
        | next =>
          obtain ⟨σ6, H6, S6, rfl, rfl⟩ := hsp
          have ha6 : s6.heap.get? a = some oe4 := (S6.pin (a, oe4) (List.mem_append.mpr (.inl List.mem_cons_self))).1
          have K6 := (S6.unsuite ok).adopt hex n0 na ha6 hz4 hd4 nL nP
          refine gone_ok K6 hN hi hln fun s7 J7 => ⟨_, _, J7, ?_⟩
          rw [List.set_comm _ _ hij, List.set_set]
          exact hy2 a na
        | brk => obtain ⟨_, _, _, z⟩ := hsp; cases z
        | cont => obtain ⟨_, _, _, z⟩ := hsp; cases z
        | ret u => obtain ⟨_, _, _, _, _, z⟩ := hsp; cases z
    | false =>
      show wpAny _ X.A (handleBy (.ref a) X.env []) _ _ _
      refine wpAny_handleBy_nil ?_
      obtain ⟨k1, k2, k3, oe, vs, T, oT, ts', he, hz, hd, h1, hr⟩ := id fl3
      unfold PySem.passOn
      refine wpAny_bind (wpAny_field he hd h1 ?_)
      rw [if_neg (show ¬ ((Value.ref T == Value.none) = true) from by simp)]
      have fin : wpAny (model X.prog X.w) X.A (setFlight (.ref a) X.env.frame) (fun _ s4 => wpAny (model X.prog X.w) X.A (throw (.ref a) : Sem Flow) (SP X pins D) X.xe s4) X.xe { s' with heap := h3 } := by
        rw [hf]
        refine HandSPX.setFlight_upZ fl3 fun h4 hh4 up4 => wpAny_throw (tk _ _ ?_)
        exact ⟨a, B, sI, pins, σ', H', cls, d, rfl, J, nb, (up.trans up3).trans up4, .inr (.inr (by rw [hs]; exact hh4)), na, os, ag, hno rfl⟩
      first
        | exact wpAny_bind (wpAny_pure (wpAny_bind fin))
        | exact wpAny_bind fin
  · cases f with
    | next =>
      obtain ⟨σ', H', J', q⟩ := hsp
      exact wpAny_execs_nil ⟨σ', H', J'.ofTry ok, q⟩
    | brk =>
      obtain ⟨σ', H', J', q⟩ := hsp
      exact ⟨σ', H', J'.ofTry ok, q⟩
    | cont =>
      obtain ⟨σ', H', J', q⟩ := hsp
      exact ⟨σ', H', J'.ofTry ok, q⟩
    | ret u =>
      obtain ⟨v, σ', H', J', r, q⟩ := hsp
      exact ⟨v, σ', H', J'.ofTry ok, r, q⟩
end
end L2
namespace UX
section
open PySem PySem.Spec PySem.W PySem.Calls PyProof.Rows
variable {prog : Program} {w : World} {A : Around} {E : Value → Shared → Prop} {s : Shared} {K : Frag} {x D : Addr} {ox : Obj} {od : Option Obj}
theorem cls_find (C : L2.ExcC K D) : findObj K D od "__class__" = some (.bind (.builtin "getset_descriptor.__get__") (.builtin "object.__class__")) := by
  obtain ⟨c0, e0, _⟩ := any_some C.hd
  simp [findObj, e0, C.ha, C.hn, C.ht]
theorem cls_ask {Q : Option Value → Shared → Prop} (C : L2.ExcC K D) (X : K.In s.heap) (I : InstAt s.heap x ox D od) (q : Q (some (.ref D)) { s with toks := s.toks + 1 }) : wpAny (model prog w) A (getAttr? (.ref x) "__class__") Q E s := by
  obtain ⟨h0, g0, d0, t0, o0⟩ := s
  have ty := I.type (M := model prog w); have ga := looks_findIn (M := model prog w) X C.hg; have gt := looks_findIn (M := model prog w) X C.hk
  have fd := looks_find (M := model prog w) X I (cls_find C)
  have sb : Looks (model prog w) h0 (isInstance (.ref x) (.type "BaseException")) true := by exact ty.andThen (looks_subIn X C.hs)
  have n2 : (Value.builtin "BaseException.__getattribute__" == Value.builtin "object.__getattribute__") = false := by decide +kernel
  have n1 : (onTheHeap (Value.ref D) && Value.builtin "BaseException.__getattribute__" == Value.builtin "object.__getattribute__") = false := by rw [n2, Bool.and_false]
  unfold getAttr? getAttrBy? getAttrBy; refine wpAny_bind (wpAny_mkText (wpAny_bind (wpAny_attempt (wpAny_holding (wpAny_bind (ty.at (wpAny_bind (ga.at ?_)))))))); show wpAny _ _ (if (onTheHeap (Value.ref D) && Value.builtin "BaseException.__getattribute__" == Value.builtin "object.__getattribute__") = true then _ else _) _ _ _
  rw [n1, if_neg Bool.false_ne_true]; unfold getAttrByItsOwn hookBefore; refine wpAny_bind ?_; rw [if_pos (show onTheHeap (Value.ref D) = true from rfl)]; refine gt.at ?_; refine wpAny_bind (wpAny_attempt (wpAny_holding ?_))
  have n0 : (false && onTheHeap (Value.builtin "BaseException.__getattribute__")) = false := Bool.false_and _
  unfold callGetattribute; rw [n0, if_neg Bool.false_ne_true]; unfold boundAndCalled; rw [PySem.F.excAttr_ValueError.ga.bind (.ref x)]; refine wpAny_bind (wpAny_pure ?_); show wpAny _ _ (call (.builtin "BaseException.__getattribute__") [.ref x, .str "__class__" t0]) _ _ _
  refine wpAny_call (codeAny_call_builtin PySem.F.excAttr_ValueError.ga.plain PySem.F.entry_bexc_ga (@check_slot (model prog w) _ _ ⟨h0, g0, d0, t0 + 1, o0⟩ "BaseException.__getattribute__" "BaseException" "__getattribute__" (.ref x) [.str "__class__" t0] [] _ (by decide +kernel) (by decide +kernel) sb (PySem.F.args_bexc_ga (.ref x) (.str "__class__" t0)) ?_))
  unfold Builtin.«object.__getattribute__»; refine wpAny_bind (wpAny_of_eq (a := ((Value.ref x : Value), [Value.str "__class__" t0])) (by first | rfl | (simp only [slotArgs]; rfl)) ?_); refine wpAny_bind (wpAny_pure (wpAny_bind (ty.at (wpAny_bind (fd.at ?_)))))
  show wpAny _ _ (holding [Value.builtin "object.__class__"] (call (.builtin "getset_descriptor.__get__") [.builtin "object.__class__", .ref x, .ref D]) >>= ret) _ _ _
  refine wpAny_bind (wpAny_holding (wpAny_call (class_get (s := ⟨h0, g0, d0, t0 + 1, o0⟩) (ox := ox) (od := od) X I C.hm (wpAny_pure ?_)))); show wpAny _ _ (handedOut (.ref D)) _ _ _
  rw [handedOut_of (v := .ref D) rfl]; first | exact wpAny_pure (wpAny_pure q) | exact wpAny_pure q | exact wpAny_pure (wpAny_bind (wpAny_pure (wpAny_pure q)))
theorem kitx_err (C : L2.ExcC K D) : KitX K (.ref x) (.ref D) (fun h => InstAt h x ox D od) := by
  have cl : ∃ c1 d1 e1 sl1, K.lookup D = some ⟨c1, d1, .cls e1, sl1⟩ := by
    obtain ⟨c0, e0, _⟩ := any_some C.hd
    unfold clsIn at e0
    split at e0
    · rename_i c1 d1 e1 sl1 ho
      exact ⟨c1, d1, e1, sl1, ho⟩
    · cases e0
  obtain ⟨c1, d1, e1, sl1, ho⟩ := cl
  refine ⟨fun _ _ _ I => I.type, fun _ _ X _ => ?_, fun h tp dd its n sl X ht => ?_, fun X I k => cls_ask C X I k⟩
  · intro A' Q' E' s' k q; unfold isType loadHead; exact wpAny_bind (wpAny_loadPart (k _ _ (X _ _ ho)) (wpAny_pure q))
  · refine Bool.eq_false_iff.mpr fun z => ?_
    have e : D = tp := Value.ref.inj (beq_iff_eq.mp z)
    rw [← e, X _ _ ho] at ht
    cases ht
end
end UX
namespace UX
open PySem PySem.Spec PyProof.Rows L2
open EL (Ex RB BOk Bn TK)
def ClK (c : V) (cv : Value) : Prop := ∀ u, RelV c u → u = cv
theorem clK_ref {a : Addr} : ClK (.ref a) (.ref a) := fun u h => h
theorem clK_ty {T : String} : ClK (.ty T) (.type T) := fun u h => h
def ExHd (H : Hp) (a D : Addr) : Prop := Rd H a (ExK D a) ∨ ∃ dd fs, Rd H a (ExKD D a dd) ∧ Rd H dd (.xd fs)
def rIsK (K : PySem.W.Frag) : List V → Hp → VK → Prop := fun xs H Q => ∃ (a D : Addr) (c : V) (cv : Value) (b : Bool), xs = [.ref a, c] ∧ ExHd H a D ∧ ExcC K D ∧ ClK c cv ∧ PySem.W.kitOne K (.ref D) cv = some b ∧ Q (.bl b) H
def rIsKT (K : PySem.W.Frag) : List V → Hp → VK → Prop := fun xs H Q => ∃ (a D tp : Addr) (cs : List V) (cvs : List Value) (b : Bool), xs = [.ref a, .ref tp] ∧ ExHd H a D ∧ ExcC K D ∧ SqT K H tp cs ∧ (∀ us, Vals cs us → us = cvs) ∧ PySem.W.kitAny K (.ref D) cvs = some b ∧ Q (.bl b) H
section
variable {X : Cx} {K : PySem.W.Frag}
theorem inst_k {pins : List (Addr × Obj)} {σ : L2.St} {H : Hp} {s : Shared} {a D : Addr} (I : Inv X pins σ H s) (h : ExHd H a D) : ∃ oe od, PySem.W.InstAt s.heap a oe D od := by
  rcases h with h | ⟨dd, fs, h, hx⟩
  · have key : ∃ (oe : Obj) (vs : Array Value), s.heap.get? a = some oe ∧ (oe.cls = .ref D ∧ oe.dict = none) ∧ oe.data = .fields vs := by
      rcases h with h | ⟨o, h⟩
      · exact (I.hok a _ h).1
      · exact (I.hok a _ h).2.1
    obtain ⟨oe, vs, he, hz, hd⟩ := key
    obtain ⟨oc, od, oda, osl⟩ := oe
    obtain ⟨h1, h2⟩ := hz
    dsimp only at h1 h2 hd
    subst h1 h2 hd
    exact ⟨_, none, he, rfl, rfl, trivial⟩
  · have key : ∃ (oe : Obj) (vs : Array Value), s.heap.get? a = some oe ∧ (oe.cls = .ref D ∧ oe.dict = some dd) ∧ oe.data = .fields vs := by
      rcases h with h | ⟨o, h⟩
      · exact (I.hok a _ h).1
      · exact (I.hok a _ h).2.1
    have kx : ∃ mA, s.heap.Ns1 dd mA ∧ ∀ f, RelO (fs.lookup f) (mA f) := by
      rcases hx with hx | ⟨o, hx⟩
      · exact I.hok dd _ hx
      · exact (I.hok dd _ hx).2
    obtain ⟨oe, vs, he, hz, hd⟩ := key
    obtain ⟨mA, hns, _⟩ := kx
    obtain ⟨od, ho, _⟩ := lookIn_ns hns
    obtain ⟨oc, oo, oda, osl⟩ := oe
    obtain ⟨h1, h2⟩ := hz
    dsimp only at h1 h2 hd
    subst h1 h2 hd
    exact ⟨_, some od, he, rfl, rfl, ho⟩
theorem call_isK (hK : X.K = K := by rfl) : CallR X (.builtin "isinstance") (rIsK K) := by
  subst hK
  intro pins s σ H xs us Q I r h
  obtain ⟨a, D, c, cv, b, rfl, ha, C, hcv, e, q⟩ := h
  cases r with
  | cons rx rr =>
    cases rr with
    | cons rt rr =>
      cases rr
      cases rx
      have ec := hcv _ rt
      subst ec
      obtain ⟨oe, od, J⟩ := inst_k I ha
      exact PySem.W.kia_one (kitx_err C) I.kIn J e (fun z => nomatch z) fun tk => ⟨.bl b, H, I.kept (t' := tk) fun _ _ z => z, rfl, q⟩
theorem call_isKT (hK : X.K = K := by rfl) : CallR X (.builtin "isinstance") (rIsKT K) := by
  subst hK
  intro pins s σ H xs us Q I r h
  obtain ⟨a, D, tp, cs, cvs, b, rfl, ha, C, hT, hcv, e, q⟩ := h
  cases r with
  | cons rx rr =>
    cases rr with
    | cons rt rr =>
      cases rr
      cases rx
      cases rt
      obtain ⟨its, rv, ⟨⟨cl, dd, dat, sl⟩, at_, ec, n, ed⟩, _⟩ := I.tuple hT
      dsimp only at ec ed
      subst ec ed
      have := hcv _ rv
      subst this
      obtain ⟨oe, od, J⟩ := inst_k I ha
      exact PySem.W.kia_tup (kitx_err C) I.kIn J at_ e (fun z => nomatch z) fun tk => ⟨.bl b, H, I.kept (t' := tk) fun _ _ z => z, rfl, q⟩
end
def isKU (tab : Str → Option Bool) : U → Option U
  | .exc c => (tab c).map .bl
  | .exo c _ _ => (tab c).map .bl
  | _ => none
section
variable {F : Fr} {δ : Dl} {ta tl : TE} {wa : M U}
theorem ev_isK {tab : Str → Option Bool} {c0 : V} {cv : Value} (hC : ∀ c b, tab c = some b → ExcC F.G.K (F.G.at_ c) ∧ PySem.W.kitOne F.G.K (.ref (F.G.at_ c)) cv = some b) (hv : ClK c0 cv) (ha : EvR F ta δ wa) : EvW F (tCB (rIsK F.G.K) (tCons ta (tCons (tC c0) tNil))) δ (op1 (isKU tab) wa) := fun os as st γ σ H c0' st' S q QQ k => by
  obtain ⟨a, st1, qa, q⟩ := M.bind_inv q
  obtain ⟨e, rfl⟩ := M.o_inv q
  refine ha os as st γ σ H a _ S qa _ fun x H1 as1 g1 S1 px => ?_
  have key : ∃ c b a, tab c = some b ∧ ExHd H1 a (F.G.at_ c) ∧ x = .ref a ∧ c0' = .bl b := by
    cases a with
    | exc c =>
      obtain ⟨b, eb, rfl⟩ := Option.map_eq_some_iff.mp e
      obtain ⟨a, rfl, _, hr⟩ := px
      exact ⟨c, b, a, eb, .inl hr, rfl, rfl⟩
    | exo c f u =>
      obtain ⟨b, eb, rfl⟩ := Option.map_eq_some_iff.mp e
      obtain ⟨a, dd, w, rfl, _, _, hr, hx, _⟩ := px
      exact ⟨c, b, a, eb, .inr ⟨dd, _, hr, hx⟩, rfl, rfl⟩
    | _ => cases e
  obtain ⟨c, b, a, eb, hr, rfl, rfl⟩ := key
  obtain ⟨C, hk⟩ := hC c b eb
  exact ⟨a, F.G.at_ c, c0, cv, b, rfl, hr, C, hv, hk, k _ H1 as1 g1 S1 rfl⟩
def ClKs : List V → List Value → Prop
  | [], [] => True
  | c :: cs, v :: vs => ClK c v ∧ ClKs cs vs
  | _, _ => False
theorem clKs_vals : ∀ {cs : List V} {vs us : List Value}, ClKs cs vs → Vals cs us → us = vs
  | [], [], _, _, r => by cases r; rfl
  | c :: cs, v :: vs, _, h, r => by
    cases r with
    | cons r1 r2 => rw [h.1 _ r1, clKs_vals h.2 r2]
  | [], _ :: _, _, h, _ => h.elim
  | _ :: _, [], _, h, _ => h.elim
def tCs : List V → TA
  | [] => tNil
  | c :: cs => tCons (tC c) (tCs cs)
theorem tCs_at {σ : L2.St} {H : Hp} : ∀ {cs : List V} {Q : List V → Hp → Prop}, Q cs H → tCs cs σ H Q
  | [], _, h => h
  | c :: cs, Q, h => tCs_at (cs := cs) (Q := fun xs H => Q (c :: xs) H) h
theorem ev_isKT {tab : Str → Option Bool} {cs : List V} {cvs : List Value} (hC : ∀ c b, tab c = some b → ExcC F.G.K (F.G.at_ c) ∧ PySem.W.kitAny F.G.K (.ref (F.G.at_ c)) cvs = some b) (hv : ClKs cs cvs) (hl : cs.length ≤ sizeLine) (ha : EvR F ta δ wa) : EvW F (tCB (rIsKT F.G.K) (tCons ta (tCons (tTup (tCs cs)) tNil))) δ (op1 (isKU tab) wa) := fun os as st γ σ H c0' st' S q QQ k => by
  obtain ⟨a, st1, qa, q⟩ := M.bind_inv q
  obtain ⟨e, rfl⟩ := M.o_inv q
  refine ha os as st γ σ H a _ S qa _ fun x H1 as1 g1 S1 px => ?_
  have key : ∃ c b a, tab c = some b ∧ ExHd H1 a (F.G.at_ c) ∧ x = .ref a ∧ c0' = .bl b := by
    cases a with
    | exc c =>
      obtain ⟨b, eb, rfl⟩ := Option.map_eq_some_iff.mp e
      obtain ⟨a, rfl, _, hr⟩ := px
      exact ⟨c, b, a, eb, .inl hr, rfl, rfl⟩
    | exo c f u =>
      obtain ⟨b, eb, rfl⟩ := Option.map_eq_some_iff.mp e
      obtain ⟨a, dd, w, rfl, _, _, hr, hx, _⟩ := px
      exact ⟨c, b, a, eb, .inr ⟨dd, _, hr, hx⟩, rfl, rfl⟩
    | _ => cases e
  obtain ⟨c, b, a, eb, hr, rfl, rfl⟩ := key
  obtain ⟨C, hk⟩ := hC c b eb
  refine tCs_at ⟨hl, fun tp hp => ⟨a, F.G.at_ c, tp, cs, cvs, b, rfl, ?_, C, .inl (.inl upd_same), fun us h => clKs_vals hv h, hk, ?_⟩⟩
  · have up : ∀ {b : Addr} {u : HO}, Rd H1 b u → Rd (upd H1 tp (.tup cs)) b u := fun {b u} h => by
      rcases h with h | ⟨o, h⟩
      · exact .inl (by rw [upd_ne (ne_of_none h hp)]; exact h)
      · exact .inr ⟨o, by rw [upd_ne (ne_of_none h hp)]; exact h⟩
    rcases hr with h | ⟨dd, fs, h, h2⟩
    · exact .inl (up h)
    · exact .inr ⟨dd, fs, up h, up h2⟩
  · exact k _ _ as1 (g1.trans (Go.of_ex (Ex.new hp))) (S1.ex (Ex.new hp)) rfl
end
section
variable {F : Fr} {S L : Type} {δ δx : Dl} {δn : S → Dl} {δl : L → Dl}
def tryK (tab : Str → Option Bool) (wb : M (Out S L)) (sx : U → S) : M (Out S L) := .bind wb fun o => match o with
  | .rt u => (match unEx u with
    | some c => (match tab (erc c) with
      | some true => .ret (.nx (sx (kpt c)))
      | _ => .fail)
    | none => .ret (.rt u))
  | o => .ret o
theorem blk_tryK {tb : WX → TS} {ch : Value} {i j : Nat} {Wout : WX} {tab : Str → Option Bool} {wb : M (Out S L)} {sx : U → S} (hb : ∀ W, BlkX F W (tb W) δ wb δn δl δx) (hx : ∀ u, Weak ((δx.set j (some (.im u))).set i none) (δn (sx u)))
    (ht : ∀ c, tab c = some true → PySem.W.exmOne F.G.K (.ref (F.G.at_ c)) ch = some true) : Blk F (fun D σ H => tb (wKeep F.G.K ch i j Wout D) D σ H) δ (tryK tab wb sx) δn δl := fun D os as st γ σ H o st' Q q P => by
  obtain ⟨o1, st1, q1, q⟩ := M.bind_inv q
  refine hb _ D os as st γ σ H o1 st1 Q q1 ?_
  cases o1 with
  | nx s => cases q; exact P
  | bk l => cases q; exact P
  | ct l => cases q; exact P
  | rt u =>
    have q : (match unEx u with | some c => (match tab (erc c) with | some true => (M.ret (Out.nx (sx (kpt c))) : M (Out S L)) | _ => M.fail) | none => M.ret (Out.rt u)) st1 = some (.ok o, st') := q
    cases e : unEx u with
    | none =>
      rw [e] at q
      cases q
      show (match unEx u with | some c => _ | none => _)
      rw [e]
      exact P
    | some c =>
      rw [e] at q
      show (match unEx u with | some c => _ | none => _)
      rw [e]
      cases et : tab (erc c) with
      | none => simp only [et] at q; cases q
      | some b =>
        cases b with
        | false => simp only [et] at q; cases q
        | true =>
          simp only [et] at q
          cases q
          intro os2 as2 σ2 H2 cls d S2 p
          refine ⟨true, by rw [erIm_cls p]; exact ht _ et, fun _ => ⟨F.G.at_ (erc c), erIm_cls p, fun a na => ?_⟩, fun z => nomatch z⟩
          refine P os2 as2 _ _ (((((S2.ex (Ex.new na)).set (i := j) (v := .ref a) (x := .im (kpt c)) ?_).unset (i := i) (o := none)).weak (hx _)))
          cases c with
          | str c =>
            obtain ⟨_, rfl⟩ := p
            exact ⟨a, rfl, S2.notban na, .inl upd_same⟩
          | exo c f u =>
            obtain ⟨_, dd, w, rfl, nb, hx, hi⟩ := p
            refine ⟨a, dd, w, rfl, S2.notban na, nb, .inl upd_same, ?_, im_st (RB.of_ex (Ex.new na)) _ _ hi⟩
            rcases hx with h | ⟨o, h⟩
            · exact .inl (by rw [upd_ne (ne_of_none h na)]; exact h)
            · exact .inr ⟨o, by rw [upd_ne (ne_of_none h na)]; exact h⟩
          | _ => exact p.elim
end
theorem weak_fin {δ δ' : Dl} (vs : List Nat) (h : wipD δ vs = δ') : Weak δ δ' := h ▸ weak_wip δ vs
section
variable {F : Fr} {W : WX} {S S1 L : Type} {δ δx : Dl} {te ta tb : TE} {tt : TT} {w wa wb : M U} {wt : M Bool} {t t1 t2 : TS} {δn : S → Dl} {δl : L → Dl}
theorem blkx_ifL (vl : S → Dl) {wo wu : M (Out S L)} (h : EvT F tt δ wt) (h1 : BlkX F W t1 δ wo vl δl δx) (h2 : BlkX F W t2 δ wu vl δl δx) : BlkX F W (tIfS tt t1 t2) δ (iteW wt wo wu) vl δl δx := blkx_if h h1 h2
end
abbrev tabX (l : List (Str × Bool)) : Str → Option Bool := fun c => l.lookup c
theorem tab_all {l : List (Str × Bool)} {P : Str → Bool → Prop} (h : ∀ p ∈ l, P p.1 p.2) : ∀ c b, tabX l c = some b → P c b := by
  intro c b e
  induction l with
  | nil => cases e
  | cons p l ih =>
    obtain ⟨d, b'⟩ := p
    have e : List.lookup c ((d, b') :: l) = some b := e
    rw [List.lookup_cons] at e
    by_cases z : c = d
    · subst z
      rw [show (c == c) = true from by simp] at e
      cases e
      exact h (c, b) List.mem_cons_self
    · rw [show (c == d) = false from by simpa using z] at e
      exact ih (fun p m => h p (List.mem_cons_of_mem _ m)) e
section
variable {P : Program} {w : World} {K : PySem.W.Frag} {mg : Str → Option Value} {bs : Heap} {x qu : Str} {pa : Arguments} {bo : List Stmt} {sc : Scope} {dv : List V} {kw : List (Str × V)} {f : Addr} {fd : FuncData}
theorem fn_okXF {at_ : Str → Addr} {N ps : List Str} {k : Nat} {fM : List U → M U} (Fd : FunD K x qu pa bo sc dv kw f fd) (Sc : FnScope N ps sc)
    (hlen : ∀ us st r, fM us st = some r → us.length = ps.length)
    (hb : ∀ (cv : Value) (A : Around) (o : List Env) (s : Shared) (H : Hp) (E : XK), Room k (A.deeper (envOfC qu sc s.heap.objs.size f cv)) →
      ∃ t, PSs (cxOf (L2.CX P w) P w K mg bs N qu sc f cv A o s H E) bo t ∧ ∀ B H0 as0 us st r, fM us st = some r → ∃ wo : M (Out Unit Unit), fM us = fnX wo ∧ BlkX ⟨⟨K, at_⟩, B, H0, as0, noR⟩ (fun cls d _ H => E cls d H) t (stD N us) wo (fun _ => dnil N) (fun _ => dnil N) (dnil N)) :
    FnOk P w K mg bs (L2.CX P w) (k + 1) f fd ps (spX ⟨K, at_⟩ fM) := by
  refine Fd.ok Sc (fun vs H Q E h => ?_) fun cv A o s H vs Q E rm hsp => ?_
  · obtain ⟨B, as, st, us, r, st', _, _, _, _, hi, hf, _⟩ := h
    rw [imAll_len hi]
    exact hlen us st _ hf
  · obtain ⟨B, as, st, us, r, st', ok, nd, nb, sto, hi, hf, kk⟩ := hsp
    obtain ⟨t, ht, hB⟩ := hb cv A o s H E rm
    refine ⟨t, ht, ?_⟩
    obtain ⟨wo, e, bl⟩ := hB B H as us st _ hf
    rw [e] at hf
    have S0 : SDo ⟨⟨K, at_⟩, B, H, as, noR⟩ [] as st [] H (start N vs) (stD N us) := SDo.start (F := ⟨⟨K, at_⟩, B, H, as, noR⟩) ok nd nb sto hi
    cases q : wo st with
    | none => unfold fnX at hf; rw [q] at hf; cases hf
    | some p =>
      obtain ⟨o1, st1⟩ := p
      unfold fnX at hf
      rw [q] at hf
      match o1, q, hf with
      | .ok (.rt u'), q, hf =>
        refine bl _ [] as st [] _ H _ st1 S0 q ?_
        cases e2 : unEx u' with
        | none =>
          have hf : (match unEx u' with | some c => some (.er c, st1) | none => some (.ok u', st1)) = some (r, st') := hf
          rw [e2] at hf
          cases hf
          show (match unEx u' with | some c => _ | none => _)
          rw [e2]
          exact fun as' v H' r => kk as' v H' r
        | some c =>
          have hf : (match unEx u' with | some c => some (.er c, st1) | none => some (.ok u', st1)) = some (r, st') := hf
          rw [e2] at hf
          cases hf
          show (match unEx u' with | some c => _ | none => _)
          rw [e2]
          exact fun os as' σ H' cls d S p => kk as' H' cls d (S.rtE p)
      | .ok (.nx _), q, hf =>
        cases hf
        refine bl _ [] as st [] _ H _ _ S0 q ?_
        exact fun os as' σ H' S => kk as' _ H' (S.rt rfl trivial)
end
end UX
namespace UX
open PySem PySem.Spec PyProof.Rows L2
section
variable {K : PySem.W.Frag}
theorem excI_ok {c : Str} (h : (FaX.excI c).ok K = true) : ExcC K (He.ga K c) := by
  obtain ⟨h1, h⟩ := He.ba h
  obtain ⟨h2, h⟩ := He.ba h
  obtain ⟨h3, h⟩ := He.ba h
  obtain ⟨h4, h⟩ := He.ba h
  obtain ⟨h5, h⟩ := He.ba h
  obtain ⟨h6, h⟩ := He.ba h
  obtain ⟨h7, h8⟩ := He.ba h
  exact ⟨He.eqO_ok h1, He.eqO_ok h2, of_decide_eq_true h3, h4, He.eqO_ok h5, He.eqO_ok h6, of_decide_eq_true h7, of_decide_eq_true h8⟩
theorem kit_ok {c d : Str} {b : Bool} (h : (FaX.kit c d b).ok K = true) : PySem.W.kitOne K (.ref (He.ga K c)) (.ref (He.ga K d)) = some b := of_decide_eq_true h
theorem kitT_ok {c : Str} {t : String} {b : Bool} (h : (FaX.kitT c t b).ok K = true) : PySem.W.kitOne K (.ref (He.ga K c)) (.type t) = some b := of_decide_eq_true h
theorem kitA_ok {c : Str} {ds : List Str} {b : Bool} (h : (FaX.kitA c ds b).ok K = true) : PySem.W.kitAny K (.ref (He.ga K c)) (ds.map fun d => .ref (He.ga K d)) = some b := of_decide_eq_true h
structure XcF (K : PySem.W.Frag) (C : Addr) : Prop where
  q : PySem.W.excIn K C He.veBase "ValueError.__new__" = true
  kp : PySem.W.keepIn K (.ref C) = true
  sb : PySem.W.subIn K (.ref C) (.type "BaseException") = some true
  ty : PySem.W.typeIn K (.ref C) = some (.type "type")
end
end UX
namespace GQ
open PySem PySem.SeqAt
open AutoSeq1 (wpAny_loadPart')
open MeetsSeq MeetsSeq2 MeetsSeq3 SeqRoads2
section
variable {prog : Program} {w : World} {A : Around} {R : Result → Shared → Prop}
end
end GQ
namespace UX
open PySem PySem.Spec PyProof.Rows L2
open EL (Ex RB BOk Bn TK)
section
variable {X : Cx} {CX : CXT} {k : Nat} {f C : Addr} {fd : FuncData} {ps : List Str} {sp : Sp} {E : XK}
end
section
variable {F : Fr} {δ : Dl} {ta tb : TE} {wa wb : M U} {E : XK} {f : List U → M U} {c : Str} {g : Bool}
def revLU : U → Option U
  | .lst us => some (.lst us.reverse)
  | _ => none
theorem ev_revL (ha : EvR F ta δ wa) : EvW F (tRevL F.G.K ta) δ (op1 revLU wa) := fun os as st γ σ H c st' S q QQ k => by
  obtain ⟨a, st1, qa, q⟩ := M.bind_inv q
  obtain ⟨e, rfl⟩ := M.o_inv q
  refine ha os as st γ σ H a _ S qa _ fun x H1 as1 g1 S1 px => ?_
  cases a <;> simp only [revLU] at e <;> first | cases e | skip
  obtain ⟨a, vs, e, nb, s, pv⟩ := px
  exact ⟨a, vs, e, EL.sqL_of s, fun p hp => k _ _ as1 (g1.trans (Go.of_ex (Ex.new hp))) (S1.ex (Ex.new hp)) ⟨p, _, rfl, S1.notban hp, upd_same, imAll_st (RB.of_ex (Ex.new hp)) _ _ (imAll_rev pv)⟩⟩
theorem pe_revLK {X : Cx} (K : PySem.W.Frag) {e : Expr} {te : TE} {k : Nat} {p1 p2 p3 pos : Pos} (he : PE X e te) (hK : X.K = K := by rfl) : PE X (.Subscript e (.Slice none none (some (.UnaryOp .USub (.Constant (.int 1) k p1) p2)) p3) pos) (tRevL K te) := by
  subst hK
  exact pe_revL he
end
section
variable {F : Fr} {W : WX} {S S1 L : Type} {δ δx : Dl} {te ta tb : TE} {tt : TT} {w wa wb : M U} {wt : M Bool} {t t1 t2 : TS} {δn : S → Dl} {δl : L → Dl}
theorem blkx_last {wo : M (Out S L)} (h : BlkX F W (tSeq t tNext) δ wo δn δl δx) : BlkX F W t δ wo δn δl δx := h
end
mutual
inductive Dd (K : PySem.W.Frag) (H : Hp) : V → PyData → Prop
  | non : Dd K H .non .none
  | bl (b : Bool) : Dd K H (.bl b) (.bool b)
  | int (i : Int) : Dd K H (.int i) (.int i)
  | str (x : Str) : Dd K H (.str x) (.str x)
  | lst {a : Addr} {xs : List V} {ds : List PyData} : SqL K H a xs → DdAll K H xs ds → Dd K H (.ref a) (.list ds)
  | tup {a : Addr} {xs : List V} {ds : List PyData} : SqT K H a xs → DdAll K H xs ds → Dd K H (.ref a) (.tuple ds)
  | dct {a : Addr} {kvs : List (Key × V)} {ds : List (PyData × PyData)} : Rd H a (.dK kvs) → DdKv K H kvs ds → Dd K H (.ref a) (.dict ds)
inductive DdAll (K : PySem.W.Frag) (H : Hp) : List V → List PyData → Prop
  | nil : DdAll K H [] []
  | cons {v : V} {vs : List V} {d : PyData} {ds : List PyData} : Dd K H v d → DdAll K H vs ds → DdAll K H (v :: vs) (d :: ds)
inductive DdKv (K : PySem.W.Frag) (H : Hp) : List (Key × V) → List (PyData × PyData) → Prop
  | nil : DdKv K H [] []
  | int {i : Int} {v : V} {kvs : List (Key × V)} {d : PyData} {ds : List (PyData × PyData)} : Dd K H v d → DdKv K H kvs ds → DdKv K H ((.inl i, v) :: kvs) ((.int i, d) :: ds)
  | str {x : Str} {v : V} {kvs : List (Key × V)} {d : PyData} {ds : List (PyData × PyData)} : Dd K H v d → DdKv K H kvs ds → DdKv K H ((.inr x, v) :: kvs) ((.str x, d) :: ds)
end
section
variable {X : Cx} {pins : List (Addr × Obj)} {σ : L2.St} {H : Hp} {s : Shared}
theorem SysD.off {K : PySem.W.Frag} {h : Heap} (hS : SysD K) (kin : K.In h) {a : Addr} {o : Obj} (e : h.get? a = some o) (hc : o.cls = .type "list") : sysModules ≠ a := fun z => by
  obtain ⟨o1, h1, h2⟩ := hS
  have := kin _ _ h1
  rw [z, e] at this
  cases this
  rw [hc] at h2
  exact absurd h2 (by decide)
mutual
theorem Dd.reads (hS : SysD X.K) (I : Inv X pins σ H s) : ∀ {d : PyData} {v : V} {u : Value}, Dd X.K H v d → RelV v u → ∃ as, Reads s.heap u d as ∧ sysModules ∉ as
  | _, _, _, .non, r => by cases r; exact ⟨_, Reads.none, fun z => nomatch z⟩
  | _, _, _, .bl b, r => by cases r; exact ⟨_, Reads.bool b, fun z => nomatch z⟩
  | _, _, _, .int i, r => by obtain ⟨t, rfl⟩ := r; exact ⟨_, Reads.int i t, fun z => nomatch z⟩
  | _, _, _, .str x, r => by obtain ⟨t, rfl⟩ := r; exact ⟨_, Reads.str x t, fun z => nomatch z⟩
  | _, _, _, .lst hs ha, r => by
    cases r
    obtain ⟨its, rv, ⟨o, n, ho, hc, _, hd⟩, _⟩ := I.list hs
    obtain ⟨as, hr, hn⟩ := Dd.readsAll hS I ha rv
    refine ⟨_, Reads.list ho hc hd (by simpa using hr), fun z => ?_⟩
    rcases List.mem_cons.mp z with z | z
    · exact hS.off I.kIn ho hc z
    · exact hn z
  | _, _, _, .tup hs ha, r => by
    cases r
    obtain ⟨its, rv, ⟨o, ho, hc, n, hd⟩, _⟩ := I.tuple hs
    obtain ⟨as, hr, hn⟩ := Dd.readsAll hS I ha rv
    exact ⟨_, Reads.tuple ho hc hd (by simpa using hr), hn⟩
  | _, _, _, .dct hs ha, r => by
    cases r
    obtain ⟨_, hsm, vs, kv, o, es, ep, ho, hx, hd, _, pr, _⟩ := dk_rd I.hok hs
    obtain ⟨as, bs, h1, h2, h3, h4⟩ := Dd.readsKv hS I ha kv pr
    refine ⟨_, Reads.dict ho hx.1 hd h1 h2, fun z => ?_⟩
    rcases List.mem_cons.mp z with z | z
    · exact absurd z.symm (by simpa using hsm)
    · rcases List.mem_append.mp z with z | z
      · exact h3 z
      · exact h4 z
theorem Dd.readsAll (hS : SysD X.K) (I : Inv X pins σ H s) : ∀ {ds : List PyData} {vs : List V} {us : List Value}, DdAll X.K H vs ds → Vals vs us → ∃ as, ReadsAll s.heap us ds as ∧ sysModules ∉ as
  | _, _, _, .nil, r => by cases r; exact ⟨_, ReadsAll.nil, fun z => nomatch z⟩
  | _, _, _, .cons h1 h2, r => by
    cases r with
    | cons r1 r2 =>
      obtain ⟨as, q1, n1⟩ := Dd.reads hS I h1 r1
      obtain ⟨bs, q2, n2⟩ := Dd.readsAll hS I h2 r2
      exact ⟨_, ReadsAll.cons q1 q2, fun z => (List.mem_append.mp z).elim n1 n2⟩
theorem Dd.readsKv (hS : SysD X.K) (I : Inv X pins σ H s) : ∀ {kvs : List (Key × V)} {ds : List (PyData × PyData)} {vs : List (Key × Value)} {es : List DictEntry}, DdKv X.K H kvs ds → KV kvs vs → Pairs (mixKind X.prog X.w) es vs →
    ∃ as bs, ReadsAll s.heap (es.map (·.key)) (ds.map (·.1)) as ∧ ReadsAll s.heap (es.map (·.val)) (ds.map (·.2)) bs ∧ sysModules ∉ as ∧ sysModules ∉ bs
  | _, _, _, _, .nil, r, p => by
    cases r
    cases p
    exact ⟨_, _, ReadsAll.nil, ReadsAll.nil, (fun z => nomatch z), (fun z => nomatch z)⟩
  | _, _, _, _, .int (i := i) h1 h2, r, p => by
    cases r with
    | cons r1 r2 =>
      cases p with
      | cons p1 p2 p3 =>
        obtain ⟨as, bs, q1, q2, n1, n2⟩ := Dd.readsKv hS I h2 r2 p3
        obtain ⟨cs, q3, n3⟩ := Dd.reads hS I h1 (by rw [← p2] at r1; exact r1.2)
        have p1 : keyIs _ _ = true := p1
        rw [← r1.1] at p1
        obtain ⟨t, et⟩ := Value.isInt_shape (k := i) p1
        refine ⟨_, _, ReadsAll.cons (as := []) (by dsimp only; rw [et]; exact Reads.int i t) q1, ReadsAll.cons q3 q2, n1, fun z => (List.mem_append.mp z).elim n3 n2⟩
  | _, _, _, _, .str (x := x) h1 h2, r, p => by
    cases r with
    | cons r1 r2 =>
      cases p with
      | cons p1 p2 p3 =>
        obtain ⟨as, bs, q1, q2, n1, n2⟩ := Dd.readsKv hS I h2 r2 p3
        obtain ⟨cs, q3, n3⟩ := Dd.reads hS I h1 (by rw [← p2] at r1; exact r1.2)
        have p1 : keyIs _ _ = true := p1
        rw [← r1.1] at p1
        obtain ⟨t, et⟩ := Value.isStrOf_shape (x := x) p1
        refine ⟨_, _, ReadsAll.cons (as := []) (by dsimp only; rw [et]; exact Reads.str x t) q1, ReadsAll.cons q3 q2, n1, fun z => (List.mem_append.mp z).elim n3 n2⟩
end
end
section
variable {X : Cx}
def rReprE (K : PySem.W.Frag) : List V → Hp → VK → Prop := fun xs H Q => ∃ v d, xs = [v] ∧ Dd K H v d ∧ d.showable = true ∧ d.depth ≤ 64 ∧ d.shown.length ≤ sizeLine ∧ Q (.str d.shown) H
theorem call_reprE (hS : SysD X.K) (gd : X.A.guards = some []) (hu : X.A.units + 66 < cLine) : CallR X (.builtin "repr") (rReprE X.K) := by
  intro pins s σ H xs us Q I r h
  obtain ⟨v, d, rfl, hd, sh, dp, sz, q⟩ := h
  obtain ⟨u, rfl, ru⟩ := vals1 r
  obtain ⟨as, rd, hn⟩ := Dd.reads hS I hd ru
  have fin : ∀ (h' : Heap) (t : Tok) (tk : Nat), (∀ b o, s.heap.get? b = some o → h'.get? b = some o) → EP X pins σ Q (.str d.shown t) { s with heap := h', toks := tk } := fun h' t tk hk => ⟨.str d.shown, H, I.kept hk, ⟨t, rfl⟩, q⟩
  cases hd with
  | lst a b => cases ru; exact repr_of_reads' rd sh (fun _ => hn) gd (by omega) (fun _ _ z => z) fin sz
  | tup a b => cases ru; exact repr_of_reads' rd sh (fun _ => hn) gd (by omega) (fun _ _ z => z) fin sz
  | dct a b => cases ru; exact repr_of_reads' rd sh (fun _ => hn) gd (by omega) (fun _ _ z => z) fin sz
  | non => cases ru; rw [PyData.shown_none] at fin; exact PySem.P.repr_of_none (fin s.heap _ _ fun _ _ z => z)
  | bl b => cases ru; rw [PyData.shown_bool] at fin; exact PySem.P.repr_of_bool (by cases b <;> exact fin s.heap _ _ fun _ _ z => z)
  | int i => obtain ⟨t, rfl⟩ := ru; rw [PyData.shown_int] at fin; exact PySem.P.repr_of_int (by simpa [PyData.showable] using sh) (fin s.heap _ _ fun _ _ z => z)
  | str z => obtain ⟨t, rfl⟩ := ru; rw [PyData.shown_str] at fin sz; exact PySem.P.repr_of_str (fin s.heap _ _ fun _ _ z => z) sz
def strD : PyData → Str
  | .str x => x
  | d => d.shown
end
def kD : Key → PyData
  | .inl i => .int i
  | .inr x => .str x
mutual
def pdD : U → Option PyData
  | .non => some .none
  | .bl b => some (.bool b)
  | .int i => some (.int i)
  | .str x => some (.str x)
  | .tup us => (pdsD us).map .tuple
  | .lst us => (pdsD us).map .list
  | .dct ks us => (pdsD us).map fun ds => .dict ((ks.map kD).zip ds)
  | .dcT _ _ => none
  | .dcN _ _ => none
  | .obj _ _ _ => none
  | .top _ => none
  | .frl us => (pdsD us).map .list
  | .loc _ => none
  | .exc _ => none
  | .exo _ _ _ => none
def pdsD : List U → Option (List PyData)
  | [] => some []
  | u :: us => match pdD u, pdsD us with
    | some d, some ds => some (d :: ds)
    | _, _ => none
end
section
variable {G : Cxt} {rs : List Addr} {B B' : Bn} {H H' : Hp}
theorem ddKv_of {K : PySem.W.Frag} {H : Hp} : ∀ {ks : List Key} {vs : List V} {ds : List PyData}, DdAll K H vs ds → DdKv K H (ks.zip vs) ((ks.map UX.kD).zip ds)
  | [], _, _, _ => .nil
  | _ :: _, _, _, .nil => .nil
  | .inl _ :: _, _, _, .cons h1 h2 => .int h1 (ddKv_of h2)
  | .inr _ :: _, _, _, .cons h1 h2 => .str h1 (ddKv_of h2)
mutual
theorem im_dd : ∀ (u : U) (v : V) (d : PyData), im G rs B u v H → pdD u = some d → Dd G.K H v d
  | .non, _, _, h, e => by cases h; cases e; exact .non
  | .bl _, _, _, h, e => by cases h; cases e; exact .bl _
  | .int _, _, _, h, e => by cases h; cases e; exact .int _
  | .str _, _, _, h, e => by cases h; cases e; exact .str _
  | .tup us, _, d, ⟨a, vs, e, s, q⟩, e' => by
    subst e
    obtain ⟨ds, e1, rfl⟩ := Option.map_eq_some_iff.mp (show (pdsD us).map .tuple = some d from e')
    exact .tup (EL.sqT_of s) (imAll_dd us vs ds q e1)
  | .lst us, _, d, ⟨a, vs, e, _, s, q⟩, e' => by
    subst e
    obtain ⟨ds, e1, rfl⟩ := Option.map_eq_some_iff.mp (show (pdsD us).map .list = some d from e')
    exact .lst (.inl (.inl s)) (imAll_dd us vs ds q e1)
  | .dct ks us, _, d, ⟨a, vs, e, _, s, l, q⟩, e' => by
    subst e
    obtain ⟨ds, e1, rfl⟩ := Option.map_eq_some_iff.mp (show (pdsD us).map (fun ds => PyData.dict ((ks.map UX.kD).zip ds)) = some d from e')
    exact .dct s (ddKv_of (imAll_dd us vs ds q e1))
  | .dcT _ _, _, _, _, e' => by cases e'
  | .dcN _ _, _, _, _, e' => by cases e'
  | .obj _ _ _, _, _, _, e' => by cases e'
  | .top _, _, _, _, e' => by cases e'
  | .frl us, _, d, ⟨a, vs, e, s, q⟩, e' => by
    subst e
    obtain ⟨ds, e1, rfl⟩ := Option.map_eq_some_iff.mp (show (pdsD us).map .list = some d from e')
    exact .lst s.sq (imAll_dd us vs ds q e1)
  | .loc _, _, _, _, e' => by cases e'
  | .exc _, _, _, _, e' => by cases e'
  | .exo _ _ _, _, _, _, e' => by cases e'
theorem imAll_dd : ∀ (us : List U) (vs : List V) (ds : List PyData), imAll G rs B us vs H → pdsD us = some ds → DdAll G.K H vs ds
  | [], _, _, h, e => by rw [show _ = _ from h]; cases e; exact .nil
  | u :: us, _, ds, ⟨v, w, e, h1, h2⟩, e' => by
    subst e
    rw [pdsD] at e'
    cases e1 : pdD u with
    | none => rw [e1] at e'; cases e'
    | some d =>
      cases e2 : pdsD us with
      | none => rw [e1, e2] at e'; cases e'
      | some ds => rw [e1, e2] at e'; cases e'; exact .cons (im_dd u v d h1 e1) (imAll_dd us w ds h2 e2)
end
end
def shD (d : PyData) : Bool := d.showable && (decide (d.depth ≤ 64) && decide (d.shown.length ≤ sizeLine))
def reprE (u : U) : Option U := match pdD u with
  | some d => if shD d = true then some (.str d.shown) else none
  | none => none
theorem call_reprEK {X : Cx} {K : PySem.W.Frag} (hS : SysD K) (gd : X.A.guards = some []) (hu : X.A.units + 66 < cLine) (h : X.K = K := by rfl) : CallR X (.builtin "repr") (rReprE K) := by
  subst h
  exact call_reprE hS gd hu
section
variable {F : Fr}
theorem ok_reprE : Op1Ok F (rReprE F.G.K) reprE := fun os as H a c x ok ha e QQ k => by
  unfold reprE at e
  cases e1 : pdD a with
  | none => rw [e1] at e; cases e
  | some d =>
    rw [e1] at e
    simp [shD] at e
    obtain ⟨⟨h1, h3, h4⟩, rfl⟩ := e
    exact ⟨x, d, rfl, im_dd _ _ _ (rd_im0 ha) e1, h1, h3, h4, k _ H (Ex.refl H) rfl⟩
end
section
variable {X : Cx}
end
def shS (d : PyData) : Bool := d.showable && (decide (d.depth ≤ 60) && (decide (d.shown.length ≤ sizeLine) && (match d with
  | .int i => decide (i.natAbs.log2 < 1920)
  | _ => true)))
def strE (u : U) : Option U := match pdD u with
  | some d => if shS d = true then some (.str (strD d)) else none
  | none => none
section
variable {F : Fr}
end
end UX
namespace PySem.SeqAt
end PySem.SeqAt
namespace UX
open PySem PySem.Spec PyProof.Rows L2
open EL (Ex RB BOk Bn TK)
section
variable {X : Cx}
def b2i (b : Bool) : Int := if b = true then 1 else 0
inductive NumV : V → Int → Prop
  | int (i : Int) : NumV (.int i) i
  | bl (b : Bool) : NumV (.bl b) (b2i b)
end
section
variable {F : Fr}
end
end UX
namespace UY
open PySem PySem.Spec PyProof.Rows L2
section
variable {X : Cx}
end
end UY
namespace UX
open PySem PySem.Spec PyProof.Rows L2 UY
open EL (Ex RB BOk Bn TK)
section
variable {F : Fr} {S L : Type} {δ : Dl} {δn : S → Dl} {δl : L → Dl} {t2 : TS} {i : Nat} {tx : TE}
end
section
variable {F : Fr} {S L : Type} {δ : Dl} {δn : S → Dl} {δl : L → Dl} {t2 : TS} {i : Nat} {Sh0 : Sh} {tp tv ty : TE}
theorem Hole.put {os : Os} {as : SA} {st : Sto} {γ : List (U × V)} {σ : L2.St} {H : Hp} {h : Hl} {k x d' : U} {y z v : V} (hl : Hole F os as i Sh0 σ H (.dct .leaf) h v) (Q : SDo F os as st γ H σ δ) (e : putU h.1 k x = some d') (pk : im F.G (rts as) (ban F os as) k y H) (px : im F.G (rts as) (ban F os as) x z H) :
    ∃ a H', v = .ref a ∧ DPut H a y z H' ∧ SDo F os as st γ H' σ (δ.set i (some (.own Sh0 (h.2 d')))) := by
  obtain ⟨A, A1, A', A2, v0, m, e0, eA, o, pl⟩ := hl.ex
  have fin : ∀ {a : Addr} {o1 o2 : HO}, v = .ref a → A' = [a] → H a = some o1 → (∀ xs, o1 ≠ .tup xs) → (∀ y u, o1 ≠ .frz y u) → ((∀ {us : List U} {vs : List V}, imAll F.G (rts as) (ban F os as) us vs H → imAll F.G (rts as) (ban F os as) us vs (upd H a o2)) → ownD F.G (rts as) (ban F os as) (.dct .leaf) d' v (upd H a o2) [a]) →
      SDo F os as st γ (upd H a o2) σ (δ.set i (some (.own Sh0 (h.2 d')))) := fun {a o1 o2} ev e2 e3 nt nf hn => by
    have ma : a ∈ A := by rw [eA, e2]; exact List.mem_append_right _ List.mem_cons_self
    have c : Chg F os as H (upd H a o2) i A A a := chg_same m ma Q e3 nt nf
    have so := setOs_same Q.ix m
    have nd := os_nodup os (List.nodup_append.mp Q.nd).1 m
    rw [eA, e2] at nd
    have := Q.mut c (x := some (.own Sh0 (h.2 d'))) fun s es => by
      cases es
      refine ⟨_, _, v0, rfl, e0, ?_⟩
      rw [so]
      have := pl (rts as) (ban F os as) (upd H a o2) d' A' (fun u v z => by have := c.im z; rw [so] at this; exact this) (fun b xs z => c.rb.tup _ _ z) (fun b z => upd_ne fun e => ?_) (by rw [e2]; exact hn fun z => by have := c.imAll z; rw [so] at this; exact this)
      · rw [eA]; exact this
      · subst e
        have nd' := List.nodup_append.mp nd
        rcases z with z | z
        · exact nd'.2.2 b z b List.mem_cons_self rfl
        · exact (List.nodup_cons.mp nd'.2.1).1 z
    rw [so] at this
    exact this
  cases eu : h.1 with
  | dct ks us =>
    rw [eu] at o e
    obtain ⟨a, vs, e1, e2, e3, l, hv⟩ := own_dct.mp o
    simp only [putU] at e
    split at e
    · rename_i hl
      cases ek : keyU k with
      | none => rw [ek] at e; cases e
      | some key =>
        rw [ek] at e
        simp only at e
        have ey := im_key ek pk
        subst ey
        have hz : (ks.zip vs).length < sizeLine := by rw [List.length_zip]; omega
        obtain ⟨ks', us', e5, rfl⟩ : ∃ ks' us', (match idxK key ks with | some j => if ks.Nodup then some (ks, us.set j x) else none | none => some (ks ++ [key], us ++ [x])) = some (ks', us') ∧ d' = .dct ks' us' := by
          cases ei : idxK key ks with
          | some j =>
            rw [ei] at e
            simp only at e ⊢
            split at e
            · rename_i nd
              cases e
              exact ⟨_, _, if_pos nd, rfl⟩
            · cases e
          | none => rw [ei] at e; cases e; exact ⟨_, _, rfl, rfl⟩
        obtain ⟨vs', p1, p2, p3⟩ := put_zip l hv px e5
        refine ⟨a, _, e1, DPut.k e3 hz, ?_⟩
        rw [p1]
        exact fin e1 e2 e3 (fun _ z => nomatch z) (fun _ _ z => nomatch z) fun t => own_dct.mpr ⟨a, vs', e1, rfl, upd_same, p2, t p3⟩
    · cases e
  | dcT ks us =>
    rw [eu] at o e
    obtain ⟨a, vs, e1, e2, e3, l, hv⟩ := own_dcT.mp o
    simp only [putU] at e
    split at e
    · rename_i hl
      cases ek : tkeyU k with
      | none => rw [ek] at e; cases e
      | some key =>
        rw [ek] at e
        simp only at e
        obtain ⟨b, ey, hb⟩ := im_tkey ek pk
        subst ey
        have hz : (ks.zip vs).length < sizeLine := by rw [List.length_zip]; omega
        obtain ⟨ks', us', e5, rfl⟩ : ∃ ks' us', (match idxK key ks with | some j => if ks.Nodup then some (ks, us.set j x) else none | none => some (ks ++ [key], us ++ [x])) = some (ks', us') ∧ d' = .dcT ks' us' := by
          cases ei : idxK key ks with
          | some j =>
            rw [ei] at e
            simp only at e ⊢
            split at e
            · rename_i nd
              cases e
              exact ⟨_, _, if_pos nd, rfl⟩
            · cases e
          | none => rw [ei] at e; cases e; exact ⟨_, _, rfl, rfl⟩
        obtain ⟨vs', p1, p2, p3⟩ := put_zip l hv px e5
        refine ⟨a, _, e1, DPut.t e3 hb hz, ?_⟩
        rw [p1]
        exact fin e1 e2 e3 (fun _ z => nomatch z) (fun _ _ z => nomatch z) fun t => own_dcT.mpr ⟨a, vs', e1, rfl, upd_same, p2, t p3⟩
    · cases e
  | _ => rw [eu] at e; cases e
end
section
variable {F : Fr} {S L : Type} {δ : Dl} {δn : S → Dl} {δl : L → Dl} {t2 : TS} {i : Nat} {Sh0 : Sh} {tp tv ty : TE}
end
section
variable {F : Fr} {S L : Type} {δ : Dl} {g : TG} {tb : TS} {td : TE} {wd : M (U × U)} {δ2 : L → Dl} {i : Nat} {Sh0 : Sh}
end
structure DSN (F : Fr) (s : Sh) (os : Os) (k0 : Nat) (D : Addr) (as : SA) (st : Sto) (γ : List (U × V)) (H : Hp) (σ : L2.St) (δ : Dl) (ks : List Key) (us : List U) (A : List Addr) : Prop where
  S : SDo F ((k0, D :: A) :: os) as st γ H σ δ
  a : ∃ vs, H D = some (.dK (ks.zip vs)) ∧ ks.length = us.length ∧ ownZ (fun _ => ownD F.G (rts as) (ban F ((k0, D :: A) :: os) as) s) 0 us vs H A
section
variable {F : Fr} {os : Os} {as as' : SA} {st st' : Sto} {γ : List (U × V)} {H H' : Hp} {σ : L2.St} {δ : Dl} {k0 : Nat} {D : Addr} {ks : List Key} {us : List U} {A : List Addr} {s : Sh}
theorem DSN.go (l : DSN F s os k0 D as st γ H σ δ ks us A) {σ' : L2.St} {δ' : Dl} (g : Go as as' H H') (S : SDo F ((k0, D :: A) :: os) as' st' γ H' σ' δ') : DSN F s os k0 D as' st' γ H' σ' δ' ks us A := by
  obtain ⟨vs, e, le, h⟩ := l.a
  have nf : ∀ a ∈ D :: A, a ∉ fl as := fun a m q => (List.nodup_append.mp l.S.nd).2.2 a (List.mem_append_left _ m) a q rfl
  exact ⟨S, vs, g.rb.keep _ _ (nf D List.mem_cons_self) e, le, ownZ_go g h (fun a m => nf a (List.mem_cons_of_mem _ m)) fun a m => l.S.ok a (.inr (.inl (List.mem_append_left _ (List.mem_cons_of_mem _ m))))⟩
theorem DSN.push {k : Nat} {B : List Addr} (l : DSN F s os k0 D as st γ H σ δ ks us A) (hk : δ.length ≤ k0) (hk1 : δ.length ≤ k) (hko : k0 ∉ os.map (·.1)) {u : U} {z : V} {key : Key} {as2 : SA} {st2 : Sto} {H2 : Hp} (g : Go as as2 H H2) (S2 : SDo F ((k, B) :: (k0, D :: A) :: os) as2 st2 γ H2 σ δ) (hB : ∀ a ∈ B, H a = none) (p : ownD F.G (rts as2) (ban F ((0, B) :: (k0, D :: A) :: os) as2) s u z H2 B) (hsz : ks.length < sizeLine) (ei : idxK key ks = none) :
    ∃ o, DPut H2 D (kV key) z (upd H2 D o) ∧ DSN F s os k0 D as2 st2 γ (upd H2 D o) σ δ (ks ++ [key]) (us ++ [u]) (A ++ B) := by
  obtain ⟨vs, e, le, h⟩ := l.a
  have nf : ∀ a ∈ D :: A, a ∉ fl as := fun a m q => (List.nodup_append.mp l.S.nd).2.2 a (List.mem_append_left _ m) a q rfl
  have al : ∀ a ∈ D :: A, H a ≠ none := fun a m => l.S.ok a (.inr (.inl (List.mem_append_left _ m)))
  have e2 : H2 D = some (.dK (ks.zip vs)) := g.rb.keep _ _ (nf D List.mem_cons_self) e
  have lv : ks.length = vs.length := by rw [ownZ_len h]; exact le
  have h2 : ownZ (fun _ => ownD F.G (rts as2) (ban F ((k, B) :: (k0, D :: A) :: os) as2) s) 0 us vs H2 A := by
    have h1 : ownZ (fun _ => ownD F.G (rts as) (ban F ((k, B) :: (k0, D :: A) :: os) as) s) 0 us vs H A := ownZ_mono (fun n u v A1 hs ho => own_mono (fun _ _ z => im_sub (sub_cons hB) _ _ z) (fun _ _ z => z) _ _ _ _ (fun _ _ => rfl) ho) h
    exact ownZ_go (os := (k, B) :: (k0, D :: A) :: os) g h1 (fun a m => nf a (List.mem_cons_of_mem _ m)) fun a m => al a (List.mem_cons_of_mem _ m)
  have S3 := S2.merge (k := k0) hk hk1 hko
  have c : Chg F ((k0, (D :: A) ++ B) :: os) as2 H2 (upd H2 D (.dK ((ks ++ [key]).zip (vs ++ [z])))) k0 ((D :: A) ++ B) ((D :: A) ++ B) D := chg_same List.mem_cons_self List.mem_cons_self S3 e2 (fun _ z => nomatch z) (fun _ _ z => nomatch z)
  have S4 := S3.mut c (x := none) (fun _ z => nomatch z)
  have so := setOs_same S3.ix (List.mem_cons_self (a := (k0, (D :: A) ++ B)) (l := os))
  rw [so, List.set_eq_of_length_le hk] at S4
  have bb : ∀ a, ban F ((k0, (D :: A) ++ B) :: os) as2 a → ban F ((k, B) :: (k0, D :: A) :: os) as2 a := fun a b => by
    rw [ban_cons, List.mem_append] at b
    rw [ban_cons, ban_cons]
    rcases b with (h | h) | h
    · exact .inr (.inl h)
    · exact .inl h
    · exact .inr (.inr h)
  have up : ∀ u v, im F.G (rts as2) (ban F ((k, B) :: (k0, D :: A) :: os) as2) u v H2 → im F.G (rts as2) (ban F ((k0, D :: (A ++ B)) :: os) as2) u v (upd H2 D (.dK ((ks ++ [key]).zip (vs ++ [z])))) := fun u v h => by
    have h1 : im F.G (rts as2) (ban F ((k0, (D :: A) ++ B) :: os) as2) u v H2 := im_sub (fun a _ b => bb a b) _ _ h
    have := c.im h1
    rw [so] at this
    exact this
  have nd : ((D :: A) ++ B).Nodup := os_nodup _ (List.nodup_append.mp S3.nd).1 List.mem_cons_self
  have nD := (List.nodup_cons.mp (show (D :: (A ++ B)).Nodup from nd)).1
  have tt : ∀ c xs, H2 c = some (.tup xs) → (upd H2 D (.dK ((ks ++ [key]).zip (vs ++ [z])))) c = some (.tup xs) := fun c xs h => by rw [upd_ne (fun e => by rw [e, e2] at h; cases h)]; exact h
  have hz : (ks.zip vs).length < sizeLine := by rw [List.length_zip, ← lv, Nat.min_self]; exact hsz
  refine ⟨.dK ((ks ++ [key]).zip (vs ++ [z])), by rw [← putK_zip lv ei]; exact DPut.k e2 hz, S4, vs ++ [z], upd_same, by simp [le], ?_⟩
  have hz := ownZ_mono (P' := fun _ => ownD F.G (rts as2) (ban F ((k0, D :: (A ++ B)) :: os) as2) s) (H' := upd H2 D (.dK ((ks ++ [key]).zip (vs ++ [z])))) (fun n u v A1 hs ho => own_mono up tt _ _ _ _ (fun a m => upd_ne fun z => nD (z ▸ List.mem_append_left _ (hs a m))) ho) h2
  exact ownZ_snoc1 hz (own_mono up tt _ _ _ _ (fun a m => upd_ne fun z => nD (z ▸ List.mem_append_right _ m)) p)
end
section
variable {F : Fr} {δ : Dl} {wi : TI} {g : TG} {tt : TT} {tk tv : TE} {vs : List Nat} {wl : M (List U)} {s : Sh}
end
end UX
namespace UY
open PySem PySem.Spec PyProof.Rows L2
end UY
namespace UX
open PySem PySem.Spec PyProof.Rows L2 UY
open EL (Ex RB BOk Bn TK)
section
variable {F : Fr} {δ : Dl} {g : TG} {tt : TT} {te td : TE} {vs : List Nat} {wd : M U}
end
end UX
namespace UY
open PySem PySem.Spec PyProof.Rows L2
section
variable {X : Cx}
end
end UY
namespace UX
open PySem PySem.Spec PyProof.Rows L2 UY
open EL (Ex RB BOk Bn TK)
section
variable {G : Cxt} {rs : List Addr} {B : Bn} {H : Hp}
end
section
variable {F : Fr} {S L : Type} {δ : Dl} {δn : S → Dl} {δl : L → Dl} {t2 : TS} {i : Nat} {tx : TE}
end
section
variable {P : Program} {w : World} {A : Around} {E : Value → Shared → Prop} {s : Shared}
end
def RowsOkF (d : Nat) (L : List (List Int)) : Prop := 1 ≤ d ∧ (ddp L).length + 1 < 64 ∧ ∀ ns ∈ L, ns.length = d ∧ TS.Bd B0 ns
instance (d : Nat) (L : List (List Int)) : Decidable (RowsOkF d L) := by unfold RowsOkF TS.Bd; infer_instance
section
variable {F : Fr}
end
end UX
namespace UY
open PySem PySem.Spec PyProof.Rows L2
end UY
namespace UX
open PySem PySem.Spec PyProof.Rows L2 UY
open EL (Ex RB BOk Bn TK)
section
variable {F : Fr} {δ : Dl} {ta tb : TE} {wa wb : M U}
end
mutual
def tf : NestedKey → Bool
  | .none => true
  | .num _ => true
  | .text _ => false
  | .tup ks => tfs ks
def tfs : List NestedKey → Bool
  | [] => true
  | k :: ks => tf k && tfs ks
end
mutual
theorem nk_tf : ∀ (u : U) (k : NestedKey), nkU u = some k → tf k = true
  | .non, _, e => by cases e; rfl
  | .bl _, _, e => by cases e; rfl
  | .int _, _, e => by cases e; rfl
  | .tup us, k, e => by
    obtain ⟨ks, e1, rfl⟩ := Option.map_eq_some_iff.mp (show (nkAll us).map .tup = some k from e)
    exact nks_tf us ks e1
  | .str _, _, e => by cases e
  | .lst _, _, e => by cases e
  | .dct _ _, _, e => by cases e
  | .dcT _ _, _, e => by cases e
  | .dcN _ _, _, e => by cases e
  | .obj _ _ _, _, e => by cases e
  | .top _, _, e => by cases e
  | .frl _, _, e => by cases e
  | .loc _, _, e => by cases e
  | .exc _, _, e => by cases e
  | .exo _ _ _, _, e => by cases e
theorem nks_tf : ∀ (us : List U) (ks : List NestedKey), nkAll us = some ks → tfs ks = true
  | [], _, e => by cases e; rfl
  | u :: us, ks, e => by
    rw [nkAll] at e
    cases e1 : nkU u with
    | none => rw [e1] at e; cases e
    | some k =>
      cases e2 : nkAll us with
      | none => rw [e1, e2] at e; cases e
      | some ks' =>
        rw [e1, e2] at e
        cases e
        show (tf k && tfs ks') = true
        rw [nk_tf u k e1, nks_tf us ks' e2]; rfl
end
section
variable {P : Program} {w : World} {H : Hp} {h : Heap} {G : Cxt} {rs : List Addr} {B : Bn}
mutual
theorem nk_is (ok : HOk P w H h) : ∀ (u : U) (k : NestedKey) (v : V) (x : Value), nkU u = some k → im G rs B u v H → RelV v x → NestedIs h k x
  | .non, _, _, _, e, p, r => by
    cases e; cases p
    cases (show _ = Value.none from r); exact .none
  | .bl b, _, _, _, e, p, r => by
    cases e; cases p
    cases (show _ = Value.bool b from r); exact .bool rfl
  | .int i, _, _, _, e, p, r => by
    cases e; cases p
    obtain ⟨t, rfl⟩ := (show ∃ t, _ = Value.int i t from r); exact .int i t
  | .tup us, k, _, _, e, p, r => by
    obtain ⟨ks, e1, rfl⟩ := Option.map_eq_some_iff.mp (show (nkAll us).map .tup = some k from e)
    obtain ⟨a, vs, rfl, s, q⟩ := p
    cases (show _ = Value.ref a from r)
    obtain ⟨_, its, rr, o, h1, h2, n, h3⟩ := (show ObjOk P w H h a (.tup vs) from ok a _ s)
    exact .tup h1 h2 h3 (nks_is ok us ks vs its e1 q rr)
  | .str _, _, _, _, e, _, _ => by cases e
  | .lst _, _, _, _, e, _, _ => by cases e
  | .dct _ _, _, _, _, e, _, _ => by cases e
  | .dcT _ _, _, _, _, e, _, _ => by cases e
  | .dcN _ _, _, _, _, e, _, _ => by cases e
  | .obj _ _ _, _, _, _, e, _, _ => by cases e
  | .top _, _, _, _, e, _, _ => by cases e
  | .frl _, _, _, _, e, _, _ => by cases e
  | .loc _, _, _, _, e, _, _ => by cases e
  | .exc _, _, _, _, e, _, _ => by cases e
  | .exo _ _ _, _, _, _, e, _, _ => by cases e
theorem nks_is (ok : HOk P w H h) : ∀ (us : List U) (ks : List NestedKey) (vs : List V) (xs : List Value), nkAll us = some ks → imAll G rs B us vs H → Vals vs xs → NestedAll h ks xs
  | [], _, _, _, e, p, r => by
    cases e
    rw [show _ = [] from p] at r
    cases r; exact .nil
  | u :: us, ks, _, xs, e, ⟨v, vr, ev, p1, p2⟩, r => by
    subst ev
    rw [nkAll] at e
    cases e1 : nkU u with
    | none => rw [e1] at e; cases e
    | some k =>
      cases e2 : nkAll us with
      | none => rw [e1, e2] at e; cases e
      | some ks' =>
        rw [e1, e2] at e
        cases e
        cases r with
        | cons r1 r2 => exact .cons (nk_is ok u k v _ e1 p1 r1) (nks_is ok us ks' vr _ e2 p2 r2)
end
def NK (H : Hp) (b : Addr) (k : NestedKey) : Prop := tf k = true ∧ k.depth ≤ 8 ∧ ∀ (P : Program) (w : World) (h : Heap), HOk P w H h → NestedIs h k (.ref b)
def NKs (H : Hp) (kvs : List NP) : Prop := ∀ x ∈ kvs, NK H x.2.1 x.1
theorem nk8_ok {u : U} {k : NestedKey} (e : nk8 u = some k) : nkU u = some k ∧ k.depth ≤ 8 := by
  unfold nk8 at e
  cases e1 : nkU u with
  | none => rw [e1] at e; cases e
  | some k' =>
    rw [e1] at e
    simp only at e
    split at e
    · rename_i d; cases e; exact ⟨rfl, d⟩
    · cases e
theorem NK.of {u : U} {k : NestedKey} {b : Addr} (e : nk8 u = some k) (p : im G rs B u (.ref b) H) : NK H b k :=
  ⟨nk_tf u k (nk8_ok e).1, (nk8_ok e).2, fun _ _ _ ok => nk_is ok u k _ _ (nk8_ok e).1 p rfl⟩
theorem nk8s_cons {u : U} {us : List U} {ks : List NestedKey} (e : nk8s (u :: us) = some ks) : ∃ k ks', nk8 u = some k ∧ nk8s us = some ks' ∧ ks = k :: ks' := by
  rw [nk8s] at e
  cases e1 : nk8 u with
  | none => rw [e1] at e; cases e
  | some k =>
    cases e2 : nk8s us with
    | none => rw [e1, e2] at e; cases e
    | some ks' => rw [e1, e2] at e; cases e; exact ⟨k, ks', rfl, rfl, rfl⟩
theorem NKs.of : ∀ {ks : List U} {kvs : List NP}, nk8s ks = some (kvs.map (·.1)) → imAll G rs B ks (nkA kvs) H → NKs H kvs
  | [], [], _, _ => fun _ m => nomatch m
  | [], _ :: _, e, _ => by cases e
  | u :: us, [], e, p => by obtain ⟨_, _, e1, _⟩ := p; cases e1
  | u :: us, y :: kvs, e, ⟨v, r, ev, p1, p2⟩ => by
    obtain ⟨k, ks', e1, e2, e3⟩ := nk8s_cons e
    cases e3
    cases ev
    intro x m
    rcases List.mem_cons.mp m with rfl | m
    · exact NK.of e1 p1
    · exact NKs.of e2 p2 x m
end
def valN (kvs : List NP) (k : NestedKey) : Option V := (kvs.find? fun x => decide (x.1 = k)).map (·.2.2)
def putN (kvs : List NP) (k : NestedKey) (b : Addr) (v : V) : List NP := if (kvs.any fun x => decide (x.1 = k)) = true then kvs.map fun x => if x.1 = k then (x.1, x.2.1, v) else x else kvs ++ [(k, b, v)]
theorem NKs.put {H : Hp} {kvs : List NP} {k : NestedKey} {b : Addr} {v : V} (h : NKs H kvs) (hb : NK H b k) : NKs H (putN kvs k b v) := by
  unfold putN
  intro x m
  split at m
  · obtain ⟨y, my, e⟩ := List.mem_map.mp m
    split at e
    · rename_i z
      subst e
      exact h y my
    · subst e; exact h y my
  · rcases List.mem_append.mp m with m | m
    · exact h x m
    · rw [List.mem_singleton.mp m]; exact hb
theorem NKV.val {kvs : List NP} {xs : List (NestedKey × Addr × Value)} (r : NKV kvs xs) (k : NestedKey) : RelO (valN kvs k) ((atKey xs k).map (·.2)) := by
  induction r with
  | nil => exact True.intro
  | @cons p q ps qs h t ih =>
    obtain ⟨h1, _, h2⟩ := h
    by_cases e : p.1 = k
    · have e' : q.1 = k := h1.symm.trans e
      have b : atKey (q :: qs) k = some q.2 := by simp [atKey, List.find?_cons, e']
      have a : valN (p :: ps) k = some p.2.2 := by simp [valN, List.find?_cons, e]
      rw [a, b]; exact h2
    · have e' : ¬ q.1 = k := fun z => e (h1.trans z)
      have b : atKey (q :: qs) k = atKey qs k := by simp [atKey, List.find?_cons, e']
      have a : valN (p :: ps) k = valN ps k := by simp [valN, List.find?_cons, e]
      rw [a, b]; exact ih
theorem valN_any (k : NestedKey) : ∀ kvs : List NP, (kvs.any fun x => decide (x.1 = k)) = (valN kvs k).isSome
  | [] => rfl
  | x :: kvs => by
    by_cases e : x.1 = k
    · simp [valN, List.find?_cons, e]
    · have := valN_any k kvs
      simp only [valN] at this ⊢
      simp [List.find?_cons, e]
      simpa using this
theorem NKV.put {kvs : List NP} {xs : List (NestedKey × Addr × Value)} (r : NKV kvs xs) (k : NestedKey) {b : Addr} {y : V} {u : Value} (ry : RelV y u) : NKV (putN kvs k b y) (storedH xs k b u) := by
  have e : (kvs.any fun x => decide (x.1 = k)) = (atKey xs k).isSome := by
    rw [valN_any, (r.val k).isSome_eq, Option.isSome_map]
  unfold putN storedH
  rw [e]
  by_cases q : (atKey xs k).isSome = true
  · rw [if_pos q, if_pos q]
    clear e q
    induction r with
    | nil => exact .nil
    | @cons p q ps qs h t ih =>
      rw [List.map_cons, List.map_cons]
      refine .cons ?_ ih
      obtain ⟨h1, h2, h3⟩ := h
      unfold putAt
      by_cases e : p.1 = k
      · rw [if_pos e, if_pos (h1.symm.trans e)]; exact ⟨h1, h2, ry⟩
      · rw [if_neg e, if_neg (fun z => e (h1.trans z))]; exact ⟨h1, h2, h3⟩
  · rw [if_neg q, if_neg q]; exact Paired.snoc r ⟨rfl, rfl, ry⟩
section
variable {P : Program} {w : World} {H : Hp} {h : Heap} {a : Addr} {kvs : List NP}
theorem NKV.mem {xs : List (NestedKey × Addr × Value)} (r : NKV kvs xs) {x : NestedKey × Addr × Value} (m : x ∈ xs) : ∃ y ∈ kvs, y.1 = x.1 ∧ y.2.1 = x.2.1 := by
  induction r with
  | nil => cases m
  | @cons p q ps qs h t ih =>
    rcases List.mem_cons.mp m with rfl | m
    · exact ⟨p, List.mem_cons_self, h.1, h.2.1⟩
    · obtain ⟨y, my, e⟩ := ih m
      exact ⟨y, List.mem_cons_of_mem _ my, e⟩
end
def NPut (H : Hp) (a : Addr) (y v : V) (H' : Hp) : Prop := ∃ kvs k b, H a = some (DNo a kvs) ∧ NKs H kvs ∧ y = .ref b ∧ NK H b k ∧ kvs.length < sizeLine ∧ H' = upd H a (DNo a (putN kvs k b v))
section
variable {X : Cx} {pins : List (Addr × Obj)} {σ : L2.St} {H : Hp} {s : Shared} {a : Addr} {y v : V} {u r : Value} {o : Option V} {A : Around} {E : Value → Shared → Prop}
end
section
variable {X : Cx} {o i e value : Expr} {pos pos' tpos : Pos} {td ty tv : TE}
end
def idxN (k : NestedKey) : List U → Option Nat
  | [] => none
  | u :: us => if nkU u = some k then some 0 else (idxN k us).map (· + 1)
def ndN (ks : List U) : Bool := match nk8s ks with
  | some nks => decide nks.Nodup
  | none => false
def putNU (d k v : U) : Option U := match d with
  | .dcN ks us => if ks.length < sizeLine ∧ ndN ks = true then match nk8 k with
    | some key => match k with
      | .tup _ => match idxN key ks with
        | some j => some (.dcN ks (us.set j v))
        | none => some (.dcN (ks ++ [k]) (us ++ [v]))
      | _ => none
    | none => none else none
  | _ => none
def isTupU : U → Bool
  | .tup _ => true
  | _ => false
def keysN : U → Option (List U)
  | .dcN ks _ => if ks.all isTupU = true then some ks else none
  | _ => none
theorem nk8s_len : ∀ {ks : List U} {nks : List NestedKey}, nk8s ks = some nks → nks.length = ks.length
  | [], _, e => by cases e; rfl
  | u :: us, _, e => by
    obtain ⟨_, _, _, e2, rfl⟩ := nk8s_cons e
    simp [nk8s_len e2]
theorem nk8s_snoc {k : U} {key : NestedKey} (e : nk8 k = some key) : ∀ {ks : List U} {nks : List NestedKey}, nk8s ks = some nks → nk8s (ks ++ [k]) = some (nks ++ [key])
  | [], _, e1 => by cases e1; show nk8s [k] = _; rw [nk8s, e]; rfl
  | u :: us, _, e1 => by
    obtain ⟨_, _, h1, h2, rfl⟩ := nk8s_cons e1
    show nk8s (u :: (us ++ [k])) = _
    rw [nk8s, h1, nk8s_snoc e h2]; rfl
section
variable {F : Fr} {os : Os} {as : SA} {H : Hp}
end
section
variable {F : Fr} {δ : Dl} {td ty tx ta tb : TE} {wd wk wx wa wb : M U}
end
theorem idxN_mem {k : NestedKey} : ∀ {ks : List U} {kvs : List NP}, nk8s ks = some (kvs.map (·.1)) → (idxN k ks = none → (kvs.any fun x => decide (x.1 = k)) = false) ∧ ∀ (b : Addr) (v : V) (j : Nat), idxN k ks = some j → (kvs.map (·.1)).Nodup →
    (kvs.any fun x => decide (x.1 = k)) = true ∧ (kvs.map fun x => if x.1 = k then (x.1, x.2.1, v) else x).map (·.1) = kvs.map (·.1) ∧ nkA (kvs.map fun x => if x.1 = k then (x.1, x.2.1, v) else x) = nkA kvs ∧ nkV (kvs.map fun x => if x.1 = k then (x.1, x.2.1, v) else x) = (nkV kvs).set j v
  | [], [], _ => ⟨fun _ => rfl, fun _ _ j e => by cases e⟩
  | [], _ :: _, e => by cases e
  | u :: us, [], e => by obtain ⟨_, _, _, _, e3⟩ := nk8s_cons e; cases e3
  | u :: us, y :: kvs, e => by
    obtain ⟨k', ks', e1, e2, e3⟩ := nk8s_cons e
    cases e3
    have ih := idxN_mem (k := k) (ks := us) (kvs := kvs) e2
    have hu : nkU u = some y.1 := (nk8_ok e1).1
    unfold idxN
    by_cases c : y.1 = k
    · rw [if_pos (by rw [hu, c])]
      refine ⟨fun z => (nomatch z), fun b v j ej nd => ?_⟩
      cases ej
      have nd' := List.nodup_cons.mp (show (y.1 :: kvs.map (·.1)).Nodup from nd)
      have same : (kvs.map fun x => if x.1 = k then (x.1, x.2.1, v) else x) = kvs := by
        have : (kvs.map fun x => if x.1 = k then (x.1, x.2.1, v) else x) = kvs.map id := List.map_congr_left fun x m => if_neg fun z => nd'.1 (by rw [c, ← z]; exact List.mem_map_of_mem (f := (·.1)) m)
        rw [this, List.map_id]
      refine ⟨by simp [c], ?_, ?_, ?_⟩
      · rw [List.map_cons, same, if_pos c]; rfl
      · rw [List.map_cons, same, if_pos c]; rfl
      · rw [List.map_cons, same, if_pos c]; rfl
    · rw [if_neg (by rw [hu]; exact fun z => c (Option.some.inj z))]
      refine ⟨fun z => ?_, fun b v j ej nd => ?_⟩
      · have : idxN k us = none := by cases h : idxN k us with | none => rfl | some j => rw [h] at z; cases z
        simp [c, ih.1 this]
      · obtain ⟨j', ej', rfl⟩ := Option.map_eq_some_iff.mp ej
        have nd' := List.nodup_cons.mp (show (y.1 :: kvs.map (·.1)).Nodup from nd)
        obtain ⟨h1, h2, h3, h4⟩ := ih.2 b v j' ej' nd'.2
        refine ⟨by rw [List.any_cons, h1, Bool.or_true], ?_, ?_, ?_⟩
        · rw [List.map_cons, if_neg c, List.map_cons, h2]; rfl
        · unfold nkA at h3 ⊢; rw [List.map_cons, if_neg c, List.map_cons, h3]; rfl
        · unfold nkV at h4 ⊢; rw [List.map_cons, if_neg c, List.map_cons, h4]; rfl
section
variable {F : Fr} {S L : Type} {δ : Dl} {δn : S → Dl} {δl : L → Dl} {t2 : TS} {i : Nat}
theorem SDo.putN {os : Os} {as : SA} {st : Sto} {γ : List (U × V)} {σ : L2.St} {H : Hp} {d k x d' : U} {y v : V} (Q : SDo F os as st γ H σ δ) (hd : δ[i]? = some (some (.own (.dct .leaf) d))) (e : putNU d k x = some d') (pk : im F.G (rts as) (ban F os as) k y H) (px : im F.G (rts as) (ban F os as) x v H) :
    ∃ a H', σ[i]? = some (some (.ref a)) ∧ NPut H a y v H' ∧ SDo F os as st γ H' σ (δ.set i (some (.own (.dct .leaf) d'))) := by
  obtain ⟨v0, e0, A, m, o⟩ := Q.get hd
  cases d with
  | dcN ks us =>
    obtain ⟨a, kvs, e1, e2, e3, l, hk, hv⟩ := own_dcN.mp o
    subst e1 e2
    simp only [putNU] at e
    split at e
    · rename_i hl
      have ll := nk8s_len l
      rw [List.length_map] at ll
      have nd : (kvs.map (·.1)).Nodup := by
        have := hl.2
        unfold ndN at this
        rw [l] at this
        exact of_decide_eq_true this
      cases ek : nk8 k with
      | none => rw [ek] at e; cases e
      | some key =>
        rw [ek] at e
        simp only at e
        cases k with
        | tup kus =>
          simp only at e
          obtain ⟨b, ws, rfl, hb, hw⟩ := id pk
          have hB : NK H b key := NK.of ek pk
          have hK : NKs H kvs := NKs.of l hk
          have hz : kvs.length < sizeLine := by omega
          refine ⟨a, _, e0, ⟨kvs, key, b, e3, hK, rfl, hB, hz, rfl⟩, ?_⟩
          have hi := idxN_mem (k := key) l
          refine Q.redo m e0 e3 (fun _ z => nomatch z) (fun _ _ z => nomatch z) fun t => ?_
          cases ei : idxN key ks with
          | some j =>
            rw [ei] at e
            cases e
            obtain ⟨h1, h2, h3, h4⟩ := hi.2 b v j ei nd
            refine own_dcN.mpr ⟨a, UX.putN kvs key b v, rfl, rfl, upd_same, ?_, ?_, ?_⟩
            · unfold UX.putN; rw [if_pos h1, h2]; exact l
            · have ee : nkA (UX.putN kvs key b v) = nkA kvs := by unfold UX.putN; rw [if_pos h1, h3]
              rw [ee]; exact t hk
            · have ee : nkV (UX.putN kvs key b v) = (nkV kvs).set j v := by unfold UX.putN; rw [if_pos h1, h4]
              rw [ee]; exact t (imAll_set hv px)
          | none =>
            rw [ei] at e
            cases e
            have h1 := hi.1 ei
            have n1 : ¬ (kvs.any fun x => decide (x.1 = key)) = true := by rw [h1]; exact fun z => nomatch z
            refine own_dcN.mpr ⟨a, UX.putN kvs key b v, rfl, rfl, upd_same, ?_, ?_, ?_⟩
            · unfold UX.putN; rw [if_neg n1, List.map_append]; exact nk8s_snoc ek l
            · have ee : nkA (UX.putN kvs key b v) = nkA kvs ++ [.ref b] := by unfold UX.putN nkA; rw [if_neg n1, List.map_append]; rfl
              rw [ee]; exact t (imAll_snoc hk pk)
            · have ee : nkV (UX.putN kvs key b v) = nkV kvs ++ [v] := by unfold UX.putN nkV; rw [if_neg n1, List.map_append]; rfl
              rw [ee]; exact t (imAll_snoc hv px)
        | _ => cases e
    · cases e
  | _ => cases e
end
section
variable {F : Fr} {δ : Dl}
end
def keysNW (w : M U) : M (List U) := .bind w fun u => .o (keysN u)
section
variable {F : Fr} {δ : Dl} {wi : TI} {g : TG} {tt : TT} {te : TE} {vs : List Nat} {wl : M (List U)}
end
section
variable {F : Fr} {S L : Type} {δ : Dl} {wi : TI} {g : TG} {tb : TS} {wl : M (List U)} {δl : S → Dl} {δ2 : L → Dl}
end
def un22 {α : Type} (u : U) (k : U → U → U → U → M α) : M α := match u with
  | .tup [.tup [a, b], .tup [c, d]] => k a b c d
  | _ => .fail
def un21 {α : Type} (u : U) (k : U → U → U → M α) : M α := match u with
  | .tup [.tup [a, b], c] => k a b c
  | _ => .fail
section
variable {F : Fr} {δ : Dl} {i j l m : Nat} {vs : List Nat}
end
end UX
namespace UX
open PySem PySem.Spec PyProof.Rows L2 UY
end UX
namespace UX
open PySem PySem.Spec PyProof.Rows L2 UY
open EL (Ex RB BOk Bn TK)
section
variable {F : Fr} {δ : Dl} {wi : TI} {g : TG} {tt : TT} {te : TE} {vs : List Nat} {wl : M (List U)}
end
section
variable {F : Fr} {S L : Type} {δ : Dl} {wi : TI} {g : TG} {tb : TS} {wl : M (List U)} {δl : S → Dl} {δ2 : L → Dl}
end
section
variable {X : Cx}
end
section
variable {F : Fr} {os : Os} {as as' : SA} {st st' : Sto} {γ : List (U × V)} {H H' : Hp} {σ : L2.St} {δ : Dl}
structure DSn (F : Fr) (os : Os) (k0 : Nat) (D : Addr) (as : SA) (st : Sto) (γ : List (U × V)) (H : Hp) (σ : L2.St) (δ : Dl) (d : U) : Prop where
  S : SDo F ((k0, [D]) :: os) as st γ H σ δ
  a : ∃ ks us kvs, d = .dcN ks us ∧ H D = some (DNo D kvs) ∧ nk8s ks = some (kvs.map (·.1)) ∧ imAll F.G (rts as) (ban F ((k0, [D]) :: os) as) ks (nkA kvs) H ∧ imAll F.G (rts as) (ban F ((k0, [D]) :: os) as) us (nkV kvs) H
variable {k0 : Nat} {D : Addr} {d : U}
theorem DSn.go (l : DSn F os k0 D as st γ H σ δ d) {σ' : L2.St} {δ' : Dl} (g : Go as as' H H') (S : SDo F ((k0, [D]) :: os) as' st' γ H' σ' δ') : DSn F os k0 D as' st' γ H' σ' δ' d := by
  have keep : ∀ o, H D = some o → H' D = some o := fun o e => g.rb.keep _ _ (fun m => (List.nodup_append.mp l.S.nd).2.2 D (List.mem_append_left _ List.mem_cons_self) D m rfl) e
  obtain ⟨ks, us, kvs, e, h, le, q1, q2⟩ := l.a
  exact ⟨S, ks, us, kvs, e, keep _ h, le, imAll_go g q1, imAll_go g q2⟩
theorem DSn.put (l : DSn F os k0 D as st γ H σ δ d) (hk : δ.length ≤ k0) {k x d' : U} {y v : V} (e : putNU d k x = some d') (pk : im F.G (rts as) (ban F ((k0, [D]) :: os) as) k y H) (px : im F.G (rts as) (ban F ((k0, [D]) :: os) as) x v H) :
    ∃ o, NPut H D y v (upd H D o) ∧ DSn F os k0 D as st γ (upd H D o) σ δ d' := by
  have upS : ∀ {o o' : HO}, H D = some o → (∀ xs, o ≠ .tup xs) → (∀ y u, o ≠ .frz y u) → SDo F ((k0, [D]) :: os) as st γ (upd H D o') σ δ ∧ ∀ {us : List U} {vs : List V}, imAll F.G (rts as) (ban F ((k0, [D]) :: os) as) us vs H → imAll F.G (rts as) (ban F ((k0, [D]) :: os) as) us vs (upd H D o') := fun {o o'} eD nt nf => by
    have c : Chg F ((k0, [D]) :: os) as H (upd H D o') k0 [D] [D] D := chg_same List.mem_cons_self List.mem_cons_self l.S eD nt nf
    have S := l.S.mut c (x := none) (fun _ z => nomatch z)
    have so := setOs_same l.S.ix (List.mem_cons_self (a := (k0, [D])) (l := os))
    rw [so] at S
    rw [List.set_eq_of_length_le hk] at S
    exact ⟨S, fun h => by have := c.imAll h; rw [so] at this; exact this⟩
  obtain ⟨ks, us, kvs, rfl, e3, le, hks, hvs⟩ := l.a
  simp only [putNU] at e
  split at e
  · rename_i hl
    have ll := nk8s_len le
    rw [List.length_map] at ll
    have nd : (kvs.map (·.1)).Nodup := by
      have := hl.2
      unfold ndN at this
      rw [le] at this
      exact of_decide_eq_true this
    cases ek : nk8 k with
    | none => rw [ek] at e; cases e
    | some key =>
      rw [ek] at e
      simp only at e
      cases k with
      | tup kus =>
        simp only at e
        obtain ⟨b, ws, rfl, hb, hw⟩ := id pk
        have hB : NK H b key := NK.of ek pk
        have hK : NKs H kvs := NKs.of le hks
        have hz : kvs.length < sizeLine := by omega
        obtain ⟨S, up⟩ := upS (o' := DNo D (UX.putN kvs key b v)) e3 (fun _ z => nomatch z) (fun _ _ z => nomatch z)
        refine ⟨_, ⟨kvs, key, b, e3, hK, rfl, hB, hz, rfl⟩, S, ?_⟩
        have hi := idxN_mem (k := key) le
        cases ei : idxN key ks with
        | some j =>
          rw [ei] at e
          cases e
          obtain ⟨h1, h2, h3, h4⟩ := hi.2 b v j ei nd
          refine ⟨_, _, UX.putN kvs key b v, rfl, upd_same, ?_, ?_, ?_⟩
          · unfold UX.putN; rw [if_pos h1, h2]; exact le
          · have ee : nkA (UX.putN kvs key b v) = nkA kvs := by unfold UX.putN; rw [if_pos h1, h3]
            rw [ee]; exact up hks
          · have ee : nkV (UX.putN kvs key b v) = (nkV kvs).set j v := by unfold UX.putN; rw [if_pos h1, h4]
            rw [ee]; exact up (imAll_set hvs px)
        | none =>
          rw [ei] at e
          cases e
          have h1 := hi.1 ei
          have n1 : ¬ (kvs.any fun x => decide (x.1 = key)) = true := by rw [h1]; exact fun z => nomatch z
          refine ⟨_, _, UX.putN kvs key b v, rfl, upd_same, ?_, ?_, ?_⟩
          · unfold UX.putN; rw [if_neg n1, List.map_append]; exact nk8s_snoc ek le
          · have ee : nkA (UX.putN kvs key b v) = nkA kvs ++ [.ref b] := by unfold UX.putN nkA; rw [if_neg n1, List.map_append]; rfl
            rw [ee]; exact up (imAll_snoc hks pk)
          · have ee : nkV (UX.putN kvs key b v) = nkV kvs ++ [v] := by unfold UX.putN nkV; rw [if_neg n1, List.map_append]; rfl
            rw [ee]; exact up (imAll_snoc hvs px)
      | _ => cases e
  · cases e
end
section
variable {F : Fr} {δ : Dl} {wi : TI} {g : TG} {tt : TT} {tk tv : TE} {vs : List Nat} {wl : M (List U)}
end
section
variable {X : Cx} {pins : List (Addr × Obj)} {σ : L2.St} {H : Hp} {s : Shared}
end
section
variable {G : Cxt} {rs : List Addr} {B : Bn} {H : Hp}
end
section
variable {F : Fr} {S L : Type} {δ : Dl} {δn : S → Dl} {δl : L → Dl} {t2 : TS} {i : Nat} {tx : TE}
end
section
variable {X : Cx}
end
section
variable {X : Cx}
end
section
variable {F : Fr} {S L : Type} {δ : Dl} {δn : S → Dl} {δl : L → Dl} {t2 : TS} {i : Nat} {tx : TE}
end
section
variable {F : Fr} {W : WX} {S L : Type} {δ δx : Dl} {tb : TS} {δl : S → Dl} {δ2 : L → Dl}
end
section
variable {F : Fr} {S L : Type} {δ : Dl} {g : TG} {tb : TS} {td : TE} {wd : M U} {δ2 : L → Dl}
end
section
variable {X : Cx} {CX : CXT} {k : Nat} {f : Addr} {fd : FuncData} {ps : List Str} {sp : Sp} {E : L2.St → XK} {x : Str} {p pos : Pos} {e : Expr} {es : List Expr} {t : TA} {ds : List Value} {dvs : List V}
end
section
variable {F : Fr} {W : WX} {δ : Dl} {ta : TA} {wa : M (List U)}
end
end UX
namespace UX
open PySem PySem.Spec PyProof.Rows L2
open EL (Ex RB BOk Bn TK)
section
variable {F : Fr} {S L : Type} {δ δx : Dl} {δn : S → Dl} {δl : L → Dl}
end
section
variable {F : Fr} {W : WX} {te : TE} {δ : Dl} {w : M U}
theorem EvRs.plain (h : EvRs F W te δ w) : EvW F te δ w := fun os as st γ σ H c st' S q QQ k => h os as st γ σ H (.ok c) st' S q QQ k
end
end UX
namespace UX
open PySem PySem.Spec PyProof.Rows L2
open EL (Ex RB BOk Bn TK gStarLast)
section
variable {F : Fr} {S L : Type} {δ : Dl} {te : TE} {t2 : TS} {w : M U} {δn : S → Dl} {δl : L → Dl}
end
end UX
namespace UX
open PySem PySem.Spec PyProof.Rows L2
open EL (Ex RB BOk Bn TK)
section
variable {F : Fr} {W : WX} {S S1 L : Type} {δ δx δ2 : Dl} {te ta tb tc : TE} {tt tu : TT} {w wa wb wc : M U} {wt wu : M Bool} {t t1 t2 : TS} {δn : S → Dl} {δl : L → Dl}
end
section
variable {F : Fr} {W : WX} {S L : Type} {δ δx : Dl} {wi : TI} {g : TG} {tb : TS} {wl : M (List U)} {δl : S → Dl} {δ2 : L → Dl}
end
section
variable {F : Fr} {W : WX} {δ : Dl} {te : TE} {wa : M U}
end
end UX
namespace UY
open PySem PySem.Spec PyProof.Rows L2
end UY
namespace UX
open PySem PySem.Spec PyProof.Rows L2 UY
open EL (Ex RB BOk Bn TK)
section
variable {F : Fr} {δ : Dl} {ta tb tc : TE} {wa wb wc : M U}
end
end UX
namespace UY
open PySem PySem.Spec PyProof.Rows L2 UX
open EL (Ex RB BOk Bn TK rSlU cut)
section
variable {X : Cx}
end
section
variable {F : Fr}
end
end UY
namespace UX
open PySem PySem.Spec PyProof.Rows L2
open EL (Ex RB BOk Bn TK FnG okG)
section
variable {K : PySem.W.Frag} {C : Addr} {c f : Str}
theorem oexB_ok (h : oexB K C = true) : OexC K C := by
  unfold oexB at h
  simp only [Bool.and_eq_true] at h
  obtain ⟨h0, h1, h2, h3, h4⟩ := h
  refine ⟨?_, He.eqO_ok h1, of_decide_eq_true h2, of_decide_eq_true h3, h4⟩
  split at h0
  · rename_i dd cd sl ho
    split at h0
    · rename_i C' bm k0 k1 k2 k3 n k5 hm hs
      simp only [Bool.and_eq_true, decide_eq_true_eq, Bool.not_eq_true'] at h0
      obtain ⟨rfl, rfl, hdel, hd, hb⟩ := h0
      obtain ⟨nm, bs, mro, ns, qn, hd', sn, sub, ab, col, del⟩ := cd
      dsimp only at hm hdel hd
      subst hm hdel hd
      obtain ⟨l⟩ := sl
      simp only at hs
      subst hs
      exact ⟨nm, qn, ns, bs, bm, sn, sub, ab, col, dd, k0, k1, k2, k3, k5, ho, hb⟩
    · cases h0
  · cases h0
theorem oex_ok (h : (FaX.oex c).ok K = true) : OexC K (He.ga K c) := oexB_ok h
structure ExI (K : PySem.W.Frag) (C f : Addr) : Prop where
  ii : PySem.W.findIn K (.ref C) "__init__" = some (some (.ref f))
  ti : PySem.W.typeIn K (.ref f) = some (.type "function")
theorem exi_ok (h : (FaX.exi c).ok K = true) : ExI K (He.ga K c) (He.ma K (He.ga K c) "__init__") := by
  obtain ⟨h1, h2⟩ := He.ba h
  exact ⟨He.eqO_ok h1, of_decide_eq_true h2⟩
theorem noa_ok (h : (FaX.noa c f).ok K = true) : PySem.W.findIn K (.ref (He.ga K c)) f = some none := He.eqO_ok h
structure EBs (K : PySem.W.Frag) (C : Addr) : Prop where
  rd : PySem.W.readsIn K C (.type "type") = true
  ga : PySem.W.specialIn K (.ref C) "__getattribute__" = some (some (.builtin "type.__getattribute__"))
  fc : PySem.W.findCls K (.ref C) (.type "type") "__init__" = some (.val (.builtin "ValueError.__init__"))
theorem ebs_ok (h : (FaX.ebs c).ok K = true) : EBs K (He.ga K c) := by
  obtain ⟨h1, h⟩ := He.ba h
  obtain ⟨h2, h3⟩ := He.ba h
  refine ⟨h1, He.eqO_ok h2, ?_⟩
  split at h3
  · rename_i n e
    rw [e, of_decide_eq_true h3]
  · cases h3
end
section
variable {X : Cx} {e : Expr} {es : List Expr} {ta : TA} {B : Str} {CB : Addr} {p p1 p2 pos : Pos}
theorem pe_obinit {pl : Sem Bool} (T : EBs X.K CB) (hg : Gl X B) (hm : X.mg B = some (.ref CB)) (ha : PA X (e :: es) ta) (hdb : (B == ("__debug__" : Str)) = false := by decide)
    (hc : eval (.Call (.Attribute (.Name B p1) "__init__" p2) (e :: es) [] pos) X.env = (do
      let ov ← eval (.Name B p1) X.env
      standAt p2.atName
      let (g, one) ← holding [ov] (getMethod ov "__init__" pl)
      callWith pos g one (backTo pos (starEach (e :: es) X.env)) (backToKw pos (keywordEach [] X.env))) := by rfl)
    (he : starEach (e :: es) X.env = (false, eval e X.env) :: starEach es X.env := by rfl) (hpl : (backTo pos (starEach es X.env)).any (·.1) = false := by rfl) :
    PE X (.Call (.Attribute (.Name B p1) "__init__" p2) (e :: es) [] pos) (tVeI X.K ta) := by
  refine ⟨fun pins s σ H Q I h => PySem.W.methodCall_KW (ld_glob I hg hm ?_ hdb) hc⟩
  refine PySem.W.method_cls I.kIn T.ga (PySem.W.cls_value I.kIn T.rd T.fc rfl ?_)
  have I' := I.tok (t := s.toks + 1)
  show wpAny _ _ (callWith pos (Value.builtin "ValueError.__init__") [] (backTo pos (starEach (e :: es) X.env)) []) _ _ _
  refine PyProof.Rows.callWith_method1 (thn (ha.run pos pins _ σ H _ (I'.tok _) h) fun us s1 ⟨vs, H1, I1, rr, a, C, ws, ev, hl, Z, ea, q⟩ => ?_) he hpl
  cases ev
  cases rr with
  | @cons _ u0 _ ur ra rw' =>
    obtain rfl : u0 = Value.ref a := ra
    exact oinit_ok Z I1 ea (by rw [← Paired.length rw', sizeLine_eq]; omega) fun s' J => ⟨.non, H1, J, rfl, q⟩
end
def spEI (K : PySem.W.Frag) (f : Str) : Sp := fun vs H Q _ => ∃ (a C : Addr) (y : V), vs = [.ref a, y] ∧ OexC K C ∧ PySem.W.findIn K (.ref C) f = some none ∧ H a = some (exo a C none) ∧ ∀ dx, H dx = none → dx ≠ a → Q .non (upd (upd H dx (exd dx [(f, y)])) a (exo a C (some dx)))
section
variable {P : Program} {w : World} {K : PySem.W.Frag} {mg : Str → Option Value} {bs : Heap} {x qu f y : Str} {pa : Arguments} {bo : List Stmt} {sc : Scope} {dv : List V} {kw : List (Str × V)} {fa : Addr} {fd : FuncData} {N : List Str} {p1 : Str}
theorem fn_ei {k : Nat} (Fd : FunD K x qu pa bo sc dv kw fa fd) (Sc : FnScope N ["self", p1] sc) (hN : N.length = 2 ∨ N.length = 3)
    (hb : ∀ (cv : Value) (A : Around) (o : List Env) (s : Shared) (H : Hp) (E : XK), Room k (A.deeper (envOfC qu sc s.heap.objs.size fa cv)) →
      PSs (cxOf CX0 P w K mg bs N qu sc fa cv A o s H E) bo (tSeq (tDrop (tVeI K (tCons (tVar 0) (tCons (tC (.str y)) tNil)))) (tOst K f (tVar 0) (tVar 1)))) :
    FnOk P w K mg bs CX0 (k + 1) fa fd ["self", p1] (spEI K f) := by
  refine Fd.ok Sc (fun vs H Q E h => ?_) fun cv A o s H vs Q E rm hsp => ?_
  · obtain ⟨a, C, z, rfl, _⟩ := h
    rfl
  · obtain ⟨a, C, z, rfl, T, no, ha, q⟩ := hsp
    refine ⟨_, hb cv A o s H E rm, ?_⟩
    have s0 : (start N [V.ref a, z])[0]? = some (some (.ref a)) := rfl
    have s1 : (start N [V.ref a, z])[1]? = some (some z) := rfl
    refine ⟨.ref a, s0, a, C, [.str y], rfl, (show 1 ≤ 1000 by decide), T, ha, ?_⟩
    exact ⟨z, s1, .ref a, s0, a, C, rfl, T, no, .inl ⟨ha, fun dx n ne => q dx n ne⟩⟩
end
section
variable {F : Fr} {W : WX} {S L : Type} {δ δx : Dl} {te : TE} {w : M U} {δn : S → Dl} {δl : L → Dl}
theorem blkx_raiseO {C f : Str} (T : OexC F.G.K (F.G.at_ C)) (no : PySem.W.findIn F.G.K (.ref (F.G.at_ C)) f = some none) (hx : EvW F te δ w) (hw : Weak δ δx) :
    BlkX F W (fun _ σ H => tMkO (F.G.at_ C) (spEI F.G.K f) [] (tCons te tNil) σ H fun cls d H' => W cls d σ H') δ (.bind w fun u => .ret (.rt (exO C f u)) : M (Out S L)) δn δl δx := fun D os as st γ σ H o st' Q q P => by
  obtain ⟨u, st1, qu, q⟩ := M.bind_inv q
  cases q
  refine hx os as st γ σ H u _ Q qu _ fun y H1 as1 g1 S1 py => ?_
  refine ⟨(show 1 ≤ 1000 by decide), fun a ha => ?_⟩
  refine ⟨a, F.G.at_ C, y, rfl, T, no, upd_same, fun dx hn ne => ?_⟩
  have h1 : H1 dx = none := by rw [upd_ne ne] at hn; exact hn
  refine ⟨rfl, dx, [(f, y)], upd_same, by rw [upd_ne ne, upd_same], h1, ?_⟩
  have eH : upd (del (upd (upd (upd H1 a (exo a (F.G.at_ C) none)) dx (exd dx [(f, y)])) a (exo a (F.G.at_ C) (some dx))) a) dx (.xd [(f, y)]) = upd H1 dx (.xd [(f, y)]) := by
    funext b
    by_cases hb : b = dx
    · rw [hb, upd_same, upd_same]
    · rw [upd_ne hb, upd_ne hb]
      by_cases hc : b = a
      · rw [hc, del_same, ha]
      · rw [del_ne hc, upd_ne hc, upd_ne hb, upd_ne hc]
  rw [eH]
  have S2 := S1.ex (Ex.new h1 (o := .xd [(f, y)]))
  exact P os as1 σ _ _ _ (S2.weak hw) ⟨rfl, dx, y, rfl, S1.notban h1, .inl upd_same, im_st (RB.of_ex (Ex.new h1)) _ _ py⟩
end
def tMakeS (C : Addr) (sp : Sp) (E : L2.St → XK) (t : TA) : TE := fun σ H Q => t σ H fun vs H1 => ∀ x dx, H1 x = none → H1 dx = none → dx ≠ x →
  sp (.ref x :: vs) (upd (upd H1 dx (.own x)) x (.ins C dx [])) (fun v H2 => v = .non ∧ Q (.ref x) H2) (E σ)
section
variable {X : Cx} {CX : CXT} {k : Nat} {f C : Addr} {fd : FuncData} {ps : List Str} {sp : Sp} {E : L2.St → XK} {x : Str} {p pos : Pos} {e : Expr} {es : List Expr} {t : TA}
theorem pe_makeS (M : Mk X.K C f) (F : FnOk X.prog X.w X.K X.mg X.base CX k f fd ps sp) (rm : Room (k + 1) X.A) (hg : Gl X x) (hm : X.mg x = some (.ref C)) (bd : Binds X.K fd ps []) (hx : ∀ σ, PassesAt CX X σ (E σ))
    (ha : PA X (e :: es) t) (d1 : (x == ("__debug__" : Str)) = false := by decide) (d2 : starEach (e :: es) X.env = (false, eval e X.env) :: starEach es X.env := by rfl) (d3 : (backTo pos (starEach es X.env)).any (·.1) = false := by rfl) :
    PE X (.Call (.Name x p) (e :: es) [] pos) (tMakeS C sp E t) := by
  refine ⟨fun pins s σ H Q I h => wpAny_Call_Name_kw (ld_glob I hg hm ?_ d1)⟩
  refine PySem.W.callWith_K (h₀ := X.base) I.ok.mod.kin M.kp (thn (ha.run pos pins s σ H _ I h) ?_) d2 d3
  rintro us s1 ⟨vs, H1, I1, rv, q⟩
  refine ⟨I1.kIn, ?_⟩
  have sz := s1.heap.objs.size
  have q2 := q (s1.heap.objs.size + 1) s1.heap.objs.size (I1.hok.fresh (Nat.le_succ _)) (I1.hok.fresh (Nat.le_refl _)) (Nat.ne_of_lt (Nat.lt_succ_self _))
  have I2 := Inv.made (C := C) I1
  have r2 : Vals (V.ref (s1.heap.objs.size + 1) :: vs) (Value.ref (s1.heap.objs.size + 1) :: us) := .cons rfl rv
  have hl : (Value.ref (s1.heap.objs.size + 1) :: us).length = ps.length := r2.length.symm.trans (F.len _ _ _ _ q2)
  have bb := bd _ (Value.ref (s1.heap.objs.size + 1) :: us) I2.kIn (by rw [List.append_nil]; exact hl)
  rw [List.append_nil] at bb
  refine wpAny_call (make_map (f := f) I1.kIn M.makes M.init (beq_iff_eq.mp M.fn) (codeAny_mono (F.run _ X.stack _ _ ⟨Value.ref (s1.heap.objs.size + 1) :: us, []⟩ (Value.ref (s1.heap.objs.size + 1) :: us) _ _ (E σ) (rm.make C us []) (I2.env0.make C us []) bb r2 q2) fun r s' hq => ?_))
  match r, hq with
  | .error er, hq => exact hx σ pins _ _ er s' I2 hq
  | .ok (.ret u), hq =>
    obtain ⟨v, H', I3, rv, rfl, q3⟩ := I2.after hq
    exact ⟨rv, ⟨V.ref (s1.heap.objs.size + 1), H', I3, rfl, q3⟩⟩
end
def nlE : U → Bool
  | .str _ => true
  | .exo _ _ u => nlU u
  | _ => false
def mkX (c : Str) (f : List U → M U) (wa : M (List U)) : M U := fun st => match wa st with
  | some (.ok us, st1) => (match f (.loc st1.length :: us) (opq st1 ++ [.obj c [] []]) with
    | some (.ok .non, st') => (match st'[st1.length]? with
      | some u => if nlU u = true then some (.ok u, st1) else none
      | none => none)
    | some (.er e, _) => if nlE e = true then some (.er e, st1) else none
    | _ => none)
  | _ => none
section
variable {F : Fr} {W : WX} {δ : Dl} {ta : TA} {wa : M (List U)} {f : List U → M U} {c : Str}
theorem evx_make (h : EvAW F ta δ wa) : EvRs F W (tMakeS (F.G.at_ c) (spX F.G f) (WE W) ta) δ (mkX c f wa) := fun os as st γ σ H r st' S q QQ k => by
  cases ea : wa st with
  | none => unfold mkX at q; rw [ea] at q; cases q
  | some p0 =>
    obtain ⟨r1, st1⟩ := p0
    unfold mkX at q
    rw [ea] at q
    match r1, q, ea with
    | .ok us, q, ea =>
      refine h os as st γ σ H us st1 S ea _ fun vs H1 as1 g1 S1 pv x dx hx hdx ne => ?_
      have q : (match f (.loc st1.length :: us) (opq st1 ++ [.obj c [] []]) with
        | some (.ok .non, st') => (match st'[st1.length]? with
          | some u => if nlU u = true then some (.ok u, st1) else none
          | none => none)
        | some (.er e, _) => if nlE e = true then some (.er e, st1) else none
        | _ => none) = some (r, st') := q
      have hH : Ex H1 (upd (upd H1 dx (.own x)) x (.ins (F.G.at_ c) dx [])) := (Ex.new hdx).trans (Ex.new (by rw [upd_ne ne.symm]; exact hx))
      have fle : fl ((as1.map fun p => (p.1, [])) ++ [(x, [x])]) = [x] := by
        have := fl_opq as1
        unfold fl at this ⊢
        rw [List.map_append, List.flatten_append, this]
        rfl
      have rle : rts ((as1.map fun p => (p.1, [])) ++ [(x, [x])]) = rts as1 ++ [x] := by
        have := rts_opq as1
        unfold rts at this ⊢
        rw [List.map_append, this]
        rfl
      have rlen : (rts as1).length = st1.length := by unfold rts; rw [List.length_map]; exact S1.sto.len
      have rsx : ∀ (i : Nat) (b : Addr), (rts as1)[i]? = some b → (rts as1 ++ [x])[i]? = some b := fun i b e => by
        rw [List.getElem?_append_left (getElem?_lt e)]; exact e
      have ab : ∀ (H0 : Hp) (as0 : SA) a, ban ⟨F.G, ban F os as1, H0, as0, noR⟩ [] ((as1.map fun p => (p.1, [])) ++ [(x, [x])]) a → ban F os as1 a ∨ a = x := by
        rintro H0 as0 a (h | h | h)
        · exact .inl h
        · cases h
        · rw [fle, List.mem_singleton] at h; exact .inr h
      have nbx : ¬ ban F os as1 x := S1.notban hx
      have up : ∀ (H0 : Hp) (as0 : SA) u v, im F.G (rts as1) (ban F os as1) u v H1 → im F.G (rts ((as1.map fun p => (p.1, [])) ++ [(x, [x])])) (ban ⟨F.G, ban F os as1, H0, as0, noR⟩ [] ((as1.map fun p => (p.1, [])) ++ [(x, [x])])) u v (upd (upd H1 dx (.own x)) x (.ins (F.G.at_ c) dx [])) := fun H0 as0 u v h => by
        rw [rle]
        have h1 : im F.G (rts as1) (fun a => ban F os as1 a ∨ a = x) u v H1 := im_sub (fun a n b => b.elim id fun z => absurd (z ▸ hx) n) _ _ h
        exact im_sub (fun a _ b => ab H0 as0 a b) _ _ (im_st (RB.of_ex hH) _ _ (im_rs rsx _ _ h1))
      obtain ⟨pr, e⟩ : ∃ pr, f (.loc st1.length :: us) (opq st1 ++ [.obj c [] []]) = some pr := by
        cases e : f (.loc st1.length :: us) (opq st1 ++ [.obj c [] []]) with
        | none => rw [e] at q; cases q
        | some pr => exact ⟨pr, rfl⟩
      rw [e] at q
      obtain ⟨r2, st2⟩ := pr
      refine ⟨ban F os as1, (as1.map fun p => (p.1, [])) ++ [(x, [x])], opq st1 ++ [.obj c [] []], .loc st1.length :: us, r2, st2, fun a b => ?_, by rw [fle]; simp, fun a m => ?_, ?_, ⟨.ref x, vs, rfl, ⟨x, ?_, rfl⟩, imAll_map (up _ _) pv⟩, e, ?_⟩
      · rcases ab _ _ a b with z | z
        · exact (Go.of_ex (as := as1) hH).alive (S1.ok a z)
        · rw [z, upd_same]; exact fun q => nomatch q
      · rw [fle, List.mem_singleton] at m; rw [m]; exact nbx
      · refine StOk.snoc ?_ ?_
        · exact ⟨x, dx, [], [], rfl, rfl, upd_same, rfl, rfl, rfl⟩
        · have := StOk.opq (G := F.G) (B := ban ⟨F.G, ban F os as1, upd (upd H1 dx (.own x)) x (.ins (F.G.at_ c) dx []), (as1.map fun p => (p.1, [])) ++ [(x, [x])], noR⟩ [] ((as1.map fun p => (p.1, [])) ++ [(x, [x])])) (H := upd (upd H1 dx (.own x)) x (.ins (F.G.at_ c) dx [])) as1 st1 S1.sto.len
          rw [rle]
          exact StOk.mono (fun u v h => im_rs rsx _ _ h) (fun _ _ h => h) (fun _ _ => rfl) this
      · rw [rle, ← rlen, List.getElem?_append_right (Nat.le_refl _), Nat.sub_self]; rfl
      · match r2, e, q with
        | .ok .non, e, q =>
          intro as' v H' rr
          have q : (match st2[st1.length]? with | some u => if nlU u = true then some (Res.ok u, st1) else none | none => none) = some (r, st') := q
          cases eu : st2[st1.length]? with
          | none => rw [eu] at q; cases q
          | some u =>
            rw [eu] at q
            simp only at q
            by_cases hn : nlU u = true
            · rw [if_pos hn] at q
              cases q
              refine ⟨rr.im, ?_⟩
              have ex : Ex H1 H' := fun a o h => rr.rel.rb.keep a o (by
                show a ∉ fl _
                rw [fle, List.mem_singleton]
                exact fun z => by rw [z, hx] at h; cases h) (hH a o h)
              obtain ⟨pp, ep⟩ : ∃ pp, as'[st'.length]? = some pp := by
                have : st'.length < as'.length := by rw [rr.sto.len]; exact getElem?_lt eu
                exact ⟨_, List.getElem?_eq_getElem this⟩
              have hroot : pp.1 = x := by
                have h1 := rr.rel.pre st'.length x (by rw [show rts _ = rts as1 ++ [x] from rle, ← rlen, List.getElem?_append_right (Nat.le_refl _), Nat.sub_self]; rfl)
                unfold rts at h1
                rw [List.getElem?_map, ep] at h1
                exact Option.some.inj h1
              have oc := rr.sto.get ep eu
              rw [hroot] at oc
              have nA : ∀ a ∈ pp.2, ¬ ban F os as1 a := fun a m => rr.nb a (mem_fl (List.mem_of_getElem? ep) m)
              have oc2 : ownC F.G (rts as') (ban F os as1) u (.ref x) H' pp.2 := ownC_mono (fun u v h => im_sub (fun a _ b => .inl b) _ _ h) _ _ _ (fun _ _ => rfl) oc
              exact k (.ref x) H' as1 (g1.trans (Go.of_ex ex)) (S1.ex ex) (im_nl _ _ hn (ownC_im nA oc2))
            · rw [if_neg hn] at q; cases q
        | .er er, e, q =>
          intro as' H' cls d rr
          have q : (if nlE er = true then some ((Res.er er : Res U), st1) else none) = some (r, st') := q
          by_cases hn : nlE er = true
          · rw [if_pos hn] at q
            cases q
            have ex : Ex H1 H' := fun a o h => rr.rel.rb.keep a o (by
              show a ∉ fl _
              rw [fle, List.mem_singleton]
              exact fun z => by rw [z, hx] at h; cases h) (hH a o h)
            refine k H' as1 cls d (g1.trans (Go.of_ex ex)) (S1.ex ex) ?_
            have pe := rr.pay
            cases er with
            | str c2 => exact pe
            | exo c2 f2 u2 =>
              obtain ⟨e1, dd, w, e2, n2, hd, hi⟩ := pe
              exact ⟨e1, dd, w, e2, fun b => n2 (.inl b), hd, im_nl _ _ hn (im_sub (fun a _ b => .inl b) _ _ hi)⟩
            | _ => exact pe.elim
          · rw [if_neg hn] at q; cases q
end
def tXfK (K : PySem.W.Frag) (f : Str) (te : TE) : TE := fun σ H Q => te σ H fun x H1 => ∃ (a dd C : Addr) (fs : List (Str × V)) (v : V), x = .ref a ∧ Rd H1 a (ExKD C a dd) ∧ Rd H1 dd (.xd fs) ∧ ExcC K C ∧ PySem.W.findIn K (.ref C) f = some none ∧ fs.lookup f = some v ∧ Q v H1
theorem pe_xfK {X : Cx} {e : Expr} {te : TE} {pos : Pos} {n : Str} (he : PE X e te) (hb : attributeBase e n X.env (eval e X.env) = eval e X.env := by rfl) : PE X (.Attribute e n pos) (tXfK X.K n te) := by
  refine ⟨fun pins s σ H Q I h => attr_of hb (thn (he.run pins s σ H _ I h) ?_)⟩
  rintro u s1 ⟨x, H1, I1, rx, a, dd, C, fs, v, rfl, ha, hd, T, no, l, q⟩
  obtain rfl : u = Value.ref a := rx
  have key : ∃ (oe : Obj) (vs : Array Value), s1.heap.get? a = some oe ∧ (oe.cls = .ref C ∧ oe.dict = some dd) ∧ oe.data = .fields vs := by
    rcases ha with h | ⟨o, h⟩
    · exact (I1.hok a _ h).1
    · exact (I1.hok a _ h).2.1
  have kx : ∃ mA, s1.heap.Ns1 dd mA ∧ ∀ f, RelO (fs.lookup f) (mA f) := by
    rcases hd with hx | ⟨o, hx⟩
    · exact I1.hok dd _ hx
    · exact (I1.hok dd _ hx).2
  obtain ⟨oe, vs, he, hz, hv⟩ := key
  obtain ⟨mA, hns, hr⟩ := kx
  obtain ⟨od, ho, hl⟩ := lookIn_ns hns
  obtain ⟨u, hu, ru⟩ := RelO.some_of (v := v) (o := mA n) (by rw [← l]; exact hr n)
  have J : PySem.W.InstAt s1.heap a oe C (some od) := ⟨he, hz.1, by unfold PySem.W.notCls; rw [hv], by rw [hz.2]; exact ho⟩
  exact HandSPX.exc_get I1.kIn J T.hg T.hk T.hs (PySem.W.findObj_own T.hd no rfl (by rw [hl, hu])) (handed_of ru) ⟨v, H1, I1.tok _, ru, q⟩
def xfU (tab : Str → Option Bool) (f : Str) : U → Option U
  | .exo c g u => if g = f ∧ tab c = some true then some u else none
  | _ => none
section
variable {F : Fr} {δ : Dl} {te : TE} {w : M U}
theorem ev_xf {f : Str} {tab : Str → Option Bool} (hC : ∀ c b, tab c = some b → b = true → ExcC F.G.K (F.G.at_ c) ∧ PySem.W.findIn F.G.K (.ref (F.G.at_ c)) f = some none) (ha : EvR F te δ w) : EvW F (tXfK F.G.K f te) δ (op1 (xfU tab f) w) := fun os as st γ σ H r st' S q QQ k => by
  obtain ⟨a, st1, qa, q⟩ := M.bind_inv q
  obtain ⟨e, rfl⟩ := M.o_inv q
  refine ha os as st γ σ H a _ S qa _ fun x H1 as1 g1 S1 px => ?_
  cases a with
  | exo c g u => ?_
  | _ => exact nomatch e
  have e : (if g = f ∧ tab c = some true then some u else none) = some r := e
  by_cases h : g = f ∧ tab c = some true
  · have eu : u = r := Option.some.inj ((if_pos h).symm.trans e)
    subst eu
    obtain ⟨rfl, ht⟩ := h
    obtain ⟨a, dd, w, rfl, _, _, h1, h2, hi⟩ := px
    obtain ⟨T, no⟩ := hC c true ht rfl
    exact ⟨a, dd, F.G.at_ c, _, w, rfl, h1, h2, T, no, by simp [List.lookup], k w H1 as1 g1 S1 hi⟩
  · exact nomatch (if_neg h).symm.trans e
end
end UX
namespace UX
open PySem PySem.Spec PyProof.Rows L2
open EL (Ex RB BOk Bn TK)
def slSU : U → Option Int → Option Int → Option U
  | .str z, lo, hi => if z.length ≤ sizeLine then some (.str (Txt.slice z lo hi)) else none
  | _, _, _ => none
def slSW (wa : M U) (wl wh : M (Option Int)) : M U := .bind wa fun a => .bind wl fun l => .bind wh fun h => .o (slSU a l h)
section
variable {F : Fr} {δ : Dl} {te : TE} {tl th : TO} {wa : M U} {wl wh : M (Option Int)}
theorem ev_slS (ha : EvR F te δ wa) (hl : EvO F tl δ wl) (hh : EvO F th δ wh) : EvW F (tSl C8.rSlX te tl th) δ (slSW wa wl wh) := fun os as st γ σ H c st' S q QQ k => by
  obtain ⟨a, st1, qa, q⟩ := M.bind_inv q
  obtain ⟨lo, st2, ql, q⟩ := M.bind_inv q
  obtain ⟨hi, st3, qh, q⟩ := M.bind_inv q
  obtain ⟨e, rfl⟩ := M.o_inv q
  refine ha os as st γ σ H a _ S qa _ fun x H1 as1 g1 S1 px => hl os as1 st1 γ σ H1 lo _ S1 ql _ fun H2 as2 g2 S2 => hh os as2 st2 γ σ H2 hi _ S2 qh _ fun H3 as3 g3 S3 => ?_
  cases a with
  | str z =>
    have e : (if z.length ≤ sizeLine then some (U.str (Txt.slice z lo hi)) else none) = some c := e
    by_cases hz : z.length ≤ sizeLine
    · rw [if_pos hz] at e
      have ec := Option.some.inj e
      subst ec
      exact ⟨z, px, hz, k _ H3 as3 ((g1.trans g2).trans g3) S3 rfl⟩
    · exact nomatch (if_neg hz).symm.trans e
  | _ => exact nomatch e
end
section
variable {F : Fr} {δ : Dl} {ta tb tc : TE} {wa wb wc : M U}
end
section
variable {X : Cx}
end
section
variable {F : Fr} {δ : Dl} {ta tb : TE} {wa wb : M U}
end
def splitU : U → U → Option U
  | .str a, .str b => if (b.length == 0) = false ∧ a.length + 2 ≤ sizeLine then some (.lst ((Txt.split a b).map .str)) else none
  | _, _ => none
def rSplit : V → List V → Hp → VK → Prop := fun x xs H Q => ∃ a b, x = .str a ∧ xs = [.str b] ∧ (b.length == 0) = false ∧ a.length + 2 ≤ sizeLine ∧ rNewStrs (Txt.split a b) H Q
def lenSU : U → Option U
  | .str z => if z.length ≤ sizeLine then some (.int z.length) else none
  | u => lenU u
def rLenS (K : PySem.W.Frag) : List V → Hp → VK → Prop := fun xs H Q => rLenQ' K xs H Q ∨ ∃ z, xs = [.str z] ∧ z.length ≤ sizeLine ∧ Q (.int z.length) H
where rLenQ' (K : PySem.W.Frag) : List V → Hp → VK → Prop := EL.rLenQ K
theorem call_lenS {X : Cx} (K : PySem.W.Frag) (h : X.K = K := by rfl) : CallR X (.builtin "len") (rLenS K) := by
  intro pins s σ H xs us Q I r hh
  rcases hh with hh | hh
  · exact EL.call_lenK K h pins s σ H xs us Q I r hh
  · exact call_len_str pins s σ H xs us Q I r hh
def ixSU : U → U → Option U
  | .str z, .int i => if z.length ≤ sizeLine then (atI z.cps.toList i).map fun c => .str ⟨#[c]⟩ else none
  | a, b => ixU a b
def rIxA (K : PySem.W.Frag) : V → V → Hp → VK → Prop := fun x y H Q => rIx K x y H Q ∨ rIxS x y H Q
theorem ix_anyK {X : Cx} (K : PySem.W.Frag) (h : X.K = K := by rfl) : IxR X (rIxA K) := by
  intro value slice pins s σ H x y v u Q I rx ry hh hs
  rcases hh with hh | hh
  · exact EL.ix_seqK K h value slice pins s σ H x y v u Q I rx ry hh hs
  · exact ix_str value slice pins s σ H x y v u Q I rx ry hh hs
def intSU : U → Option U
  | .str a => if a.length ≤ 640 then (PySem.intText? a).map .int else none
  | _ => none
def inTB : U → U → Option Bool
  | .str x, .str z => match x.cps.toList with
    | [c] => some (decide (c ∈ z.cps.toList))
    | _ => none
  | _, _ => none
def inTU (a b : U) : Option U := (inTB a b).map .bl
def itSU : U → Option (List U)
  | .str z => some (z.cps.toList.map fun c => .str ⟨#[c]⟩)
  | _ => none
def itSW (w : M U) : M (List U) := .bind w fun u => .o (itSU u)
section
variable {F : Fr} {δ : Dl} {ta tb : TE} {wa wb : M U}
theorem im_strs {G : Cxt} {rs : List Addr} {B : Bn} {H : Hp} : ∀ ys : List Str, imAll G rs B (ys.map U.str) (ys.map V.str) H
  | [] => rfl
  | y :: ys => ⟨_, _, rfl, rfl, im_strs ys⟩
theorem ev_split (ha : EvR F ta δ wa) (hb : EvR F tb δ wb) : EvW F (tM1 rSplit ta tb) δ (op2 splitU wa wb) := fun os as st γ σ H c st' S q QQ k => by
  obtain ⟨a, st1, qa, q⟩ := M.bind_inv q
  obtain ⟨b, st2, qb, q⟩ := M.bind_inv q
  obtain ⟨e, rfl⟩ := M.o_inv q
  refine ha os as st γ σ H a st1 S qa _ fun x H1 as1 g1 S1 px => ?_
  cases a with
  | str z => ?_
  | _ => exact nomatch e
  have ex : x = V.str z := px
  refine ⟨⟨z, ex⟩, hb os as1 st1 γ σ H1 b _ S1 qb _ fun y H2 as2 g2 S2 py => ?_⟩
  cases b with
  | str t => ?_
  | _ => exact nomatch e
  have e : (if (t.length == 0) = false ∧ z.length + 2 ≤ sizeLine then some (U.lst ((Txt.split z t).map .str)) else none) = some c := e
  by_cases h : (t.length == 0) = false ∧ z.length + 2 ≤ sizeLine
  · have ec := Option.some.inj ((if_pos h).symm.trans e)
    subst ec
    refine ⟨z, t, ex, by rw [show y = V.str t from py], h.1, h.2, fun p hp => ?_⟩
    refine k _ _ as2 ((g1.trans g2).trans (Go.of_ex (Ex.new hp))) (S2.ex (Ex.new hp)) ⟨p, _, rfl, S2.notban hp, upd_same, ?_⟩
    exact im_strs _
  · exact nomatch (if_neg h).symm.trans e
theorem ok_lenS : Op1Ok F (rLenS F.G.K) lenSU := fun os as H a c x ok ha e QQ k => by
  cases a with
  | str z =>
    have e : (if z.length ≤ sizeLine then some (U.int z.length) else none) = some c := e
    by_cases h : z.length ≤ sizeLine
    · have ec := Option.some.inj ((if_pos h).symm.trans e)
      subst ec
      exact .inr ⟨z, by rw [show x = V.str z from ha], h, k _ H (Ex.refl H) rfl⟩
    · exact nomatch (if_neg h).symm.trans e
  | lst us => exact .inl (ok_len os as H (.lst us) c x ok ha e QQ k)
  | tup us => exact .inl (ok_len os as H (.tup us) c x ok ha e QQ k)
  | frl us => exact .inl (ok_len os as H (.frl us) c x ok ha e QQ k)
  | _ => exact nomatch e
theorem ok_ixS : OpOk F (rIxA F.G.K) ixSU := fun os as H a b c x y ok ha hb e QQ k => by
  cases a with
  | str z =>
    cases b with
    | int i =>
      have e : (if z.length ≤ sizeLine then (atI z.cps.toList i).map fun c => U.str ⟨#[c]⟩ else none) = some c := e
      by_cases h : z.length ≤ sizeLine
      · obtain ⟨d, e1, ec⟩ := Option.map_eq_some_iff.mp ((if_pos h).symm.trans e)
        subst ec
        exact .inr ⟨z, i, d, ha, hb, h, e1, k _ H (Ex.refl H) rfl⟩
      · exact nomatch (if_neg h).symm.trans e
    | _ => exact nomatch e
  | lst us => exact .inl (ok_ix os as H (.lst us) b c x y ok ha hb e QQ k)
  | tup us => exact .inl (ok_ix os as H (.tup us) b c x y ok ha hb e QQ k)
  | frl us => exact .inl (ok_ix os as H (.frl us) b c x y ok ha hb e QQ k)
  | _ => exact nomatch e
theorem ok_intS : Op1Ok F (fun xs H Q => ∃ a n, xs = [.str a] ∧ PySem.intText? a = some n ∧ a.length ≤ 640 ∧ Q (.int n) H) intSU := fun os as H a c x ok ha e QQ k => by
  cases a with
  | str z =>
    have e : (if z.length ≤ 640 then (PySem.intText? z).map U.int else none) = some c := e
    by_cases h : z.length ≤ 640
    · obtain ⟨n, e1, ec⟩ := Option.map_eq_some_iff.mp ((if_pos h).symm.trans e)
      subst ec
      exact ⟨z, n, by rw [show x = V.str z from ha], e1, h, k _ H (Ex.refl H) rfl⟩
    · exact nomatch (if_neg h).symm.trans e
  | _ => exact nomatch e
theorem inTB_inv {a b : U} {t : Bool} (e : inTB a b = some t) : ∃ (c : Nat) (z : Str), a = .str ⟨#[c]⟩ ∧ b = .str z ∧ t = decide (c ∈ z.cps.toList) := by
  cases a with
  | str x =>
    cases b with
    | str z =>
      have e : (match x.cps.toList with | [c] => some (decide (c ∈ z.cps.toList)) | _ => none) = some t := e
      split at e
      · rename_i c hc
        obtain ⟨⟨l⟩⟩ := x
        simp only at hc
        subst hc
        exact ⟨c, z, rfl, rfl, (Option.some.inj e).symm⟩
      · exact nomatch e
    | _ => exact nomatch e
  | _ => exact nomatch e
theorem ok_inT : OpOk F (fun x y H Q => ∃ (c : Nat) (z : Str), x = .str ⟨#[c]⟩ ∧ y = .str z ∧ Q (.bl (decide (c ∈ z.cps.toList))) H) inTU := fun os as H a b c x y ok ha hb e QQ k => by
  obtain ⟨t, e1, ec⟩ := Option.map_eq_some_iff.mp e
  obtain ⟨d, z, rfl, rfl, rfl⟩ := inTB_inv e1
  subst ec
  exact ⟨d, z, ha, hb, k _ H (Ex.refl H) rfl⟩
theorem str_walk {z : Str} : WalkU F (Its z) (z.cps.toList.map fun c => .str ⟨#[c]⟩) [] := by
  have hl : (z.cps.toList.map fun c => U.str ⟨#[c]⟩).length = z.cps.size := by rw [List.length_map, Array.length_toList]
  refine ⟨fun i os as st γ σ δ H hi S2 => walk_str.goes i H (by rw [hl] at hi; exact hi) trivial, fun os as st γ σ δ H S2 => ?_, fun i os as st γ σ δ x H H2 u e S2 y => ?_⟩
  · rw [hl]; exact walk_str.stops H trivial
  · have hi : i < z.cps.size := by have := getElem?_lt e; rw [hl] at this; exact this
    obtain ⟨e1, c, e2, e3⟩ := walk_str.yields i H x H2 hi trivial y
    subst e1 e3
    refine ⟨Ex.refl _, ?_⟩
    rw [List.getElem?_map, Array.getElem?_toList, e2] at e
    cases e
    rfl
theorem src_str (h : EvW F ta δ wa) : Src F (iStr ta) δ (itSW wa) := fun os as st γ σ H us st' S q Q k => by
  obtain ⟨a, st1, qa, q⟩ := M.bind_inv q
  obtain ⟨e, rfl⟩ := M.o_inv q
  cases a with
  | str z =>
    cases e
    exact h os as st γ σ H _ _ S qa _ fun v H1 as1 g1 S1 p => ⟨z, p, k _ H1 as1 [] g1 S1 str_walk⟩
  | _ => exact nomatch e
end
theorem star_first {prog : Program} {w : World} {A : Around} {E : Value → Shared → Prop} {s : Shared} {l : Addr} {its : Array Value} {Q : List Value → Shared → Prop} (hl : s.heap.IsList l its) (hh : A.handled = none) (h1 : 1 ≤ its.size) (h2 : its.size ≤ 16384)
    (k : ∀ (h' : Heap) (tk : Nat), (∀ b o, s.heap.get? b = some o → h'.get? b = some o) →
      Q (its.toList.take 1 ++ [.ref h'.objs.size]) { s with heap := h'.push { cls := .type "list", data := .seq (its.toList.drop 1).toArray }, toks := tk }) :
    wpAny (model prog w) A (unpackItems (.ref l) 2 (some 1)) Q E s := by
  have hlt : l ≠ s.heap.objs.size := by obtain ⟨o, ho, _⟩ := hl; exact Nat.ne_of_lt (Heap.lt_size ho)
  unfold unpackItems
  refine wpAny_bind ?_
  unfold notIterableAtAll
  refine wpAny_bind (wpAny_specialOf hl.typeIs slot_list_iter.lookup ?_)
  refine wpAny_pure ?_
  simp only [Bool.false_eq_true, if_false]
  refine wpAny_bind (wpAny_holding (wpAny_pyIter_list hl ?_))
  refine wpAny_bind (wpAny_holding (PySem.W.kun_draw hlt 1 0 _ _ ⟨_, Heap.get?_push_size _ rfl, rfl, rfl⟩ (hl.push _) (by omega) fun g1 it1 sb1 => ?_))
  have hl1 : g1.IsList l its := (hl.push _).extBut sb1.extBut hlt
  rw [Nat.zero_add] at it1
  obtain ⟨oi, hoi, _⟩ := id it1
  obtain ⟨ol, hol, _⟩ := id hl1
  rw [List.drop_zero]
  have ln : its.toList.length = its.size := Array.length_toList
  have hfl : (its.toList.take 1).length = 1 := by rw [List.length_take, ln]; omega
  rw [if_neg (show ¬ ((its.toList.take 1).length < 1) by rw [hfl]; omega)]
  refine wpAny_bind (wpAny_holding (PySem.W.kun_collect (s := { s with heap := g1 }) (T := "list_iterator") (.inr (.inr (.inl rfl))) (Walks.list (A := A.in1) hh s.heap.objs.size l hlt its) (fun j u st => st.1.typeIs) (k := 1) (by omega) ⟨it1, hl1⟩ (Heap.lt_size hoi) (Heap.lt_size hol) (fun g2 tk kp => ?_) (by rw [sizeLine_eq]; omega)))
  have old : ∀ b o, s.heap.get? b = some o → g2.get? b = some o := fun b o e => kp b o (Nat.ne_of_lt (Heap.lt_size e)) (sb1.extBut b o (Nat.ne_of_lt (Heap.lt_size e)) (Heap.get?_push_of_some _ e))
  have hrl : (its.toList.drop 1).length = its.size - 1 := by rw [List.length_drop, ln]
  show wpAny _ _ (if (its.toList.drop 1).length < 0 then _ else _) _ _ _
  rw [if_neg (by omega)]
  show wpAny _ _ (newList ((its.toList.drop 1).take ((its.toList.drop 1).length - 0)) >>= fun d => pure (its.toList.take 1 ++ [d] ++ (its.toList.drop 1).drop ((its.toList.drop 1).length - 0))) _ _ _
  rw [Nat.sub_zero, List.take_length, List.drop_length]
  refine wpAny_bind (wpAny_newList (s := { s with heap := g2, toks := tk }) (wpAny_pure ?_) (by rw [hrl, sizeLine_eq]; omega))
  rw [List.append_nil]
  exact k g2 tk old
def gStarFirst (K : PySem.W.Frag) (i j : Nat) : TG := fun v σ H Q => ∃ a y xs, v = .ref a ∧ SqL K H a (y :: xs) ∧ xs.length ≤ 16000 ∧ ∀ p, H p = none → Q ((σ.set i (some y)).set j (some (.ref p))) (upd H p (.lst xs))
section
variable {X : Cx}
theorem pg_starfirst {i j : Nat} {x y : Str} {px py ps pos : Pos} {kt} (hc : X.calm = true) (hN : X.N.Nodup) (hi : X.N[i]? = some x) (hj : X.N[j]? = some y) (hx : X.env.scope.names.lookup x = some .local) (hy : X.env.scope.names.lookup y = some .local) :
    PG X (.Tuple [.Name x px, .Starred (.Name y py) ps] kt pos) (gStarFirst X.K i j) := by
  refine ⟨fun pins s σ H v u Q I r hw => ?_⟩
  obtain ⟨a, z, xs, rfl, hq, hz, hw⟩ := hw
  cases r
  obtain ⟨its, rv, ⟨o, n, ho, hcl, hdd, hd⟩, hsz⟩ := I.list hq
  have ht : s.heap.IsList a its.toArray := ⟨o, ho, hcl, n, hd⟩
  have ln : its.length = xs.length + 1 := by rw [← rv.length]; rfl
  have sz : its.toArray.size = xs.length + 1 := by rw [List.size_toArray, ln]
  rw [assign_Tuple]
  refine wpAny_bind (wpAny_standAt ?_)
  show wpAny (model X.prog X.w) X.A (holding [.ref a] (unpackItems (.ref a) 2 (some 1)) >>= fun l => assignInOrder [assign (.Name x px) X.env, assign (.Name y py) X.env] l) _ _ _
  refine wpAny_bind (wpAny_holding (star_first ht (I.ok.hd hc) (by omega) (by omega) fun g tk old => ?_))
  have tl : its.toArray.toList = its := rfl
  rw [tl]
  cases its with
  | nil => simp at ln
  | cons u1 ur =>
  cases rv with
  | cons ru rr =>
  have I1 : Inv X pins σ H { s with heap := g, toks := tk } := I.kept (t' := tk) old
  have I2 : Inv X pins σ (upd H g.objs.size (.lst xs)) { s with heap := g.push { cls := .type "list", data := .seq ur.toArray }, toks := tk } :=
    I1.laid (t' := tk) (o := .lst xs) (fun b o e => Heap.get?_push_of_some _ e) (Nat.le_refl _) ⟨Nat.le_trans hz (by decide), _, _, rr, Heap.get?_push_size _ rfl⟩
  show wpAny (model X.prog X.w) X.A (assignInOrder [assign (.Name x px) X.env, assign (.Name y py) X.env] [u1, .ref g.objs.size]) _ _ _
  refine assignInOrder_cons (wpAny_assign_Name (store_ok I2 hN hi (.inl hx) ru (fun s3 I3 => ?_) (.inr hx)))
  refine assignInOrder_cons (wpAny_assign_Name (store_ok (v := V.ref g.objs.size) I3 hN hj (.inl hy) rfl (fun s4 I4 => assignInOrder_nil ⟨_, _, I4, ?_⟩) (.inr hy)))
  exact hw _ (I1.hok.fresh (Nat.le_refl _))
end
def unSF {α : Type} (u : U) (k : U → U → M α) : M α := match u with
  | .lst (a :: r) => if r.length ≤ 16000 then k a (.lst r) else .fail
  | _ => .fail
section
variable {F : Fr} {S L : Type} {δ : Dl} {te : TE} {t2 : TS} {w : M U} {δn : S → Dl} {δl : L → Dl}
theorem blk_starF {i j : Nat} {k : U → U → M (Out S L)} (h : EvW F te δ w) (h2 : ∀ a b, Blk F t2 ((δ.set i (some (.im a))).set j (some (.im b))) (k a b) δn δl) : Blk F (tSeq (tAsg te (gStarFirst F.G.K i j)) t2) δ (.bind w fun u => unSF u k) δn δl := fun D os as st γ σ H o st' Q q P => by
  obtain ⟨u, st1, qu, q⟩ := M.bind_inv q
  refine h os as st γ σ H u _ Q qu _ fun v H1 as1 g1 S1 p => ?_
  cases u with
  | lst us =>
    cases us with
    | nil => cases q
    | cons l r =>
      have q : (if r.length ≤ 16000 then k l (.lst r) else M.fail) st1 = some (.ok o, st') := q
      by_cases hl : r.length ≤ 16000
      · rw [if_pos hl] at q
        obtain ⟨a, vs, ev, nb, ha, hv⟩ := p
        obtain ⟨y, xs, rfl, h4, h3⟩ := hv
        have ex := imAll_len h3
        refine ⟨a, y, xs, ev, EL.sqL_of ha, by omega, fun p hp => ?_⟩
        have S2 := S1.ex (Ex.new (o := .lst xs) hp)
        refine h2 l (.lst r) D os as1 st1 γ _ _ o st' ((S2.set (i := i) (v := y) (x := .im l) ?_).set (i := j) (v := .ref p) (x := .im (.lst r)) ⟨p, xs, rfl, S1.notban hp, upd_same, imAll_st (RB.of_ex (Ex.new hp)) _ _ h3⟩) q P
        exact im_st (RB.of_ex (Ex.new hp)) _ _ h4
      · rw [if_neg hl] at q; cases q
  | _ => cases q
end
end UX
namespace UX
open PySem PySem.Spec PyProof.Rows L2
theorem kb_pos {K : PySem.W.Frag} {x qual : Str} {params : Arguments} {body : List Stmt} {scope : Scope} {dvs : List V} {kws : List (Str × V)} {f : Addr} {fd : FuncData} {ps : List Str} (F : FunD K x qual params body scope dvs kws f fd) (n : Nat) (ks : List Str) (hd : dvs ≠ [])
    (h : ∀ (T : Addr) (kV doc pm : Value) (an : Option Addr) (cdv ct : Value) (us its ws : List Value), us.length = n → its.length = dvs.length → ws.length = ks.length →
      ∃ k, bindArgs (PySem.W.fnOf x qual params body scope (.ref T) kV doc pm an cdv ct) ⟨us, ks.zip ws⟩ = seqItems? (.ref T) >>= k ∧ k (some its.toArray) = pure (ps.zip (us ++ ws))) :
    KBn K fd ps n ks (fun us ws => us ++ ws) (fun vs zs => vs ++ zs) := by
  obtain ⟨_, b⟩ := F.kbindsD n ks (fun us _ ws => us ++ ws) hd (fun r1 _ r3 => r1.append r3) h
  exact b
end UX
namespace UX
open PySem PySem.Spec PyProof.Rows L2 UY
open EL (Ex RB BOk Bn TK)
section
variable {P : Program} {w : World} {H : Hp} {h : Heap} {G : Cxt} {rs : List Addr} {B : Bn}
end
section
end
section
variable {X : Cx} {CX : CXT} {k i : Nat} {f : Addr} {fd : FuncData} {ps : List Str} {sp : Sp} {dvs : List V} {ds : List Value} {E : L2.St → XK} {x : Str} {p pos : Pos} {e : Expr} {es : List Expr} {t : TA}
end
section
variable {F : Fr} {W : WX} {δ : Dl} {te ta : TE} {t : TA} {wa : M (List U)} {w : M U}
end
section
variable {F : Fr} {δ : Dl}
end
section
variable {F : Fr} {δ : Dl} {wi : TI} {g : TG} {tt : TT} {te tk tv : TE} {vs : List Nat} {wl : M (List U)}
end
end UX
namespace SrtT
open PySem PyProof.Rows Srt SrtO
section
variable {prog : Program} {w : World} {A : Around} {E : Value → Shared → Prop} {s : Shared}
end
end SrtT
namespace UX
open PySem PySem.Spec PyProof.Rows L2 UY
open EL (Ex RB BOk Bn TK)
section
variable {F : Fr} {δ : Dl}
end
section
variable {F : Fr} {δ : Dl}
end
end UX
set_option maxHeartbeats 1000000
namespace RZE
open PySem PySem.W RZ
open PySem.Sem (wp)
section
variable {prog : Program} {w : World} {A : Around} {E : Value → Shared → Prop} {s : Shared}
end
section
variable {prog : Program} {w : World} {A : Around} {E : Value → Shared → Prop} {s : Shared}
end
section
variable {prog : Program} {w : World} {A : Around} {E : Value → Shared → Prop} {s : Shared}
end
end RZE
set_option maxHeartbeats 4000000
namespace RZE
open PySem PySem.Spec PyProof.Rows L2 RZ
end RZE
namespace UX
open PySem PySem.Spec PyProof.Rows L2 RZE
open EL (Ex RB BOk Bn TK FnG okG)
section
variable {F : Fr} {δ : Dl} {ta tb : TE} {wa wb : M U}
end
end UX
namespace UX
open PySem PySem.Spec PyProof.Rows L2 UY
open EL (Ex RB BOk Bn TK)
section
variable {F : Fr} {δ : Dl} {wi wi1 : TI} {g g1 : TG} {tt tt1 : TT} {te : TE} {vs vs1 : List Nat} {w0 : M (List U)}
end
end UX
namespace UX
open PySem PySem.Spec PyProof.Rows L2
open EL (Ex RB BOk Bn TK)
section
variable {F : Fr} {δ : Dl} {i : Nat} {s0 : Sh} {te ta : TE} {wa : M U}
end
section
variable {S L : Type} {F : Fr} {δ : Dl} {δn : S → Dl} {δl : L → Dl} {i : Nat} {t2 : TS}
end
end UX
namespace SrtT
open PySem PyProof.Rows Srt SrtO
section
variable {prog : Program} {w : World} {A : Around} {E : Value → Shared → Prop} {s : Shared}
end
end SrtT
namespace L2
open PySem PySem.Spec PyProof.Rows
section
variable {X : Cx}
end
end L2
namespace UX
open PySem PySem.Spec PyProof.Rows L2
open EL (Ex RB BOk Bn TK)
section
variable {F : Fr}
end
end UX
namespace UX
open PySem PySem.Spec
def Wp {α : Type} (w : M α) (st : Sto) (Q : α → Sto → Prop) : Prop := ∃ a st', w st = some (.ok a, st') ∧ Q a st'
section
variable {α β S S' L : Type} {w : M α} {st : Sto} {Q Q' : α → Sto → Prop}
theorem Wp.mono (h : Wp w st Q) (k : ∀ a s, Q a s → Q' a s) : Wp w st Q' := by
  obtain ⟨a, s, e, q⟩ := h
  exact ⟨a, s, e, k a s q⟩
theorem Wp.ret {a : α} (h : Q a st) : Wp (.ret a) st Q := ⟨a, st, rfl, h⟩
theorem Wp.bind {f : β → M α} {v : M β} (h : Wp v st fun a s => Wp (f a) s Q) : Wp (.bind v f) st Q := by
  obtain ⟨a, s, e, b, s', e', q⟩ := h
  exact ⟨b, s', by rw [M.bind_of e]; exact e', q⟩
theorem Wp.o {x : Option α} {a : α} (e : x = some a) (h : Q a st) : Wp (.o x) st Q := by subst e; exact Wp.ret h
theorem Wp.eq {a : α} {s : Sto} (e : w st = some (.ok a, s)) (h : Q a s) : Wp w st Q := ⟨a, s, e, h⟩
end
section
variable {S S' L : Type} {st : Sto} {Q : U → Sto → Prop} {QT : Bool → Sto → Prop} {QA : List U → Sto → Prop}
theorem Wp.op1 {f : U → Option U} {wa : M U} (h : Wp wa st fun a s => ∃ c, f a = some c ∧ Q c s) : Wp (op1 f wa) st Q := .bind (h.mono fun _ _ ⟨_, e, q⟩ => .o e q)
theorem Wp.op2 {f : U → U → Option U} {wa wb : M U} (h : Wp wa st fun a s => Wp wb s fun b s => ∃ c, f a b = some c ∧ Q c s) : Wp (op2 f wa wb) st Q := .bind (h.mono fun _ _ h => .bind (h.mono fun _ _ ⟨_, e, q⟩ => .o e q))
theorem Wp.test {wa : M U} (h : Wp wa st fun a s => ∃ b, a = .bl b ∧ QT b s) : Wp (testW wa) st QT := .bind (h.mono fun _ _ ⟨_, e, q⟩ => .o (by rw [e]; rfl) q)
theorem Wp.not {w : M Bool} (h : Wp w st fun b s => QT (!b) s) : Wp (notT w) st QT := .bind (h.mono fun _ _ q => .ret q)
theorem Wp.and {w w' : M Bool} (h : Wp w st fun b s => if b = true then Wp w' s QT else QT false s) : Wp (andT w w') st QT := .bind (h.mono fun b _ q => by
  cases b
  · exact .ret q
  · exact q)
theorem Wp.or {w w' : M Bool} (h : Wp w st fun b s => if b = true then QT true s else Wp w' s QT) : Wp (orT w w') st QT := .bind (h.mono fun b _ q => by
  cases b
  · exact q
  · exact .ret q)
theorem Wp.andW {w w' : M U} (h : Wp (testW w) st fun b s => if b = true then Wp w' s Q else Q (.bl false) s) : Wp (andW w w') st Q := .bind (h.mono fun b _ q => by
  cases b
  · exact .ret q
  · exact q)
theorem Wp.orW {w w' : M U} (h : Wp (testW w) st fun b s => if b = true then Q (.bl true) s else Wp w' s Q) : Wp (orW w w') st Q := .bind (h.mono fun b _ q => by
  cases b
  · exact q
  · exact .ret q)
theorem Wp.ite {α : Type} {Q : α → Sto → Prop} {c : M Bool} {w w' : M α} (h : Wp c st fun b s => if b = true then Wp w s Q else Wp w' s Q) : Wp (iteW c w w') st Q := .bind (h.mono fun b _ q => by
  cases b
  · exact q
  · exact q)
theorem Wp.consA {wa : M U} {wr : M (List U)} (h : Wp wa st fun a s => Wp wr s fun r s => QA (a :: r) s) : Wp (consA wa wr) st QA := .bind (h.mono fun _ _ h => .bind (h.mono fun _ _ q => .ret q))
theorem Wp.nilA (h : QA [] st) : Wp nilA st QA := .ret h
theorem Wp.tup {wa : M (List U)} (h : Wp wa st fun us s => us.length ≤ sizeLine ∧ Q (.tup us) s) : Wp (tupW wa) st Q := .bind (h.mono fun _ _ ⟨l, q⟩ => .o (if_pos l) q)
theorem Wp.lst {wa : M (List U)} (h : Wp wa st fun us s => us.length ≤ sizeLine ∧ Q (.lst us) s) : Wp (lstW wa) st Q := .bind (h.mono fun _ _ ⟨l, q⟩ => .o (if_pos l) q)
theorem Wp.call {f : List U → M U} {wa : M (List U)} (h : Wp wa st fun us s => Wp (f us) s Q) : Wp (callM f wa) st Q := .bind h
theorem Wp.seq {Q : Out S' L → Sto → Prop} {w : M (Out S L)} {k : S → M (Out S' L)} (h : Wp w st fun o s => match o with
    | .nx a => Wp (k a) s Q
    | .rt u => Q (.rt u) s
    | .bk l => Q (.bk l) s
    | .ct l => Q (.ct l) s) : Wp (seqO w k) st Q := .bind (h.mono fun o _ q => by
  cases o with
  | nx a => exact q
  | _ => exact .ret q)
theorem Wp.rt {Q : Out S L → Sto → Prop} {w : M U} (h : Wp w st fun u s => Q (.rt u) s) : Wp (rtO w) st Q := .bind (h.mono fun _ _ q => .ret q)
theorem Wp.nx {Q : Out S L → Sto → Prop} {s : S} (h : Q (.nx s) st) : Wp (nxO s) st Q := .ret h
theorem Wp.fn {w : M (Out Unit Unit)} (h : Wp w st fun o s => match o with
    | .rt u => Q u s
    | .nx _ => Q .non s
    | _ => False) : Wp (fnM w) st Q := .bind (h.mono fun o _ q => by
  cases o with
  | rt u => exact .ret q
  | nx _ => exact .ret q
  | bk _ => exact q.elim
  | ct _ => exact q.elim)
theorem Wp.for {f : U → S → M (Out S S)} {Q : Out S L → Sto → Prop} {us : List U} (I : Nat → S → Sto → Prop) {s0 : S} (h0 : I 0 s0 st)
    (hs : ∀ (i : Nat) (u : U) (s : S) (st : Sto), us[i]? = some u → I i s st → Wp (f u s) st fun o st' => match o with
      | .nx s' => I (i + 1) s' st'
      | .ct s' => I (i + 1) s' st'
      | .bk s' => Q (.nx s') st'
      | .rt u => Q (.rt u) st')
    (hd : ∀ s st, I us.length s st → Q (.nx s) st) : Wp (forO f us s0) st Q := by
  have key : ∀ (vs : List U) (k : Nat) (s : S) (st : Sto), us.drop k = vs → k ≤ us.length → I k s st → Wp (forO (L := L) f vs s) st Q := by
    intro vs
    induction vs with
    | nil =>
      intro k s st e hk hi
      have : k = us.length := by
        have := congrArg List.length e
        rw [List.length_drop] at this
        simp at this
        omega
      subst this
      exact .ret (hd s st hi)
    | cons v vs ih =>
      intro k s st e hk hi
      have hlt : k < us.length := by
        have := congrArg List.length e
        rw [List.length_drop, List.length_cons] at this
        omega
      have ev : us[k]? = some v := by rw [← List.head?_drop, e]; rfl
      have ed : us.drop (k + 1) = vs := by rw [← List.tail_drop, e]; rfl
      refine .bind ((hs k v s st ev hi).mono fun o st' q => ?_)
      cases o with
      | nx s' => exact ih (k + 1) s' st' ed hlt q
      | ct s' => exact ih (k + 1) s' st' ed hlt q
      | bk s' => exact .ret q
      | rt u => exact .ret q
  exact key us 0 s0 st rfl (Nat.zero_le _) h0
theorem Wp.comp {wt : U → M Bool} {we : U → M U} {us : List U} (I : Nat → List U → Sto → Prop) (h0 : I 0 [] st)
    (hs : ∀ (i : Nat) (u : U) (r : List U) (st : Sto), us[i]? = some u → I i r st → Wp (wt u) st fun b s => if b = true then Wp (we u) s fun x s => I (i + 1) (r ++ [x]) s else I (i + 1) r s)
    (hd : ∀ r st, I us.length r st → QA r st) : Wp (compM wt we us) st QA := by
  have key : ∀ (vs : List U) (k : Nat) (r : List U) (st : Sto), us.drop k = vs → k ≤ us.length → I k r st → Wp (compM wt we vs) st fun x s => QA (r ++ x) s := by
    intro vs
    induction vs with
    | nil =>
      intro k r st e hk hi
      have : k = us.length := by
        have := congrArg List.length e
        rw [List.length_drop] at this
        simp at this
        omega
      subst this
      exact .ret (by rw [List.append_nil]; exact hd r st hi)
    | cons v vs ih =>
      intro k r st e hk hi
      have hlt : k < us.length := by
        have := congrArg List.length e
        rw [List.length_drop, List.length_cons] at this
        omega
      have ev : us[k]? = some v := by rw [← List.head?_drop, e]; rfl
      have ed : us.drop (k + 1) = vs := by rw [← List.tail_drop, e]; rfl
      refine .bind ((hs k v r st ev hi).mono fun b s q => ?_)
      cases b with
      | false => exact ih (k + 1) r s ed hlt q
      | true => exact .bind (q.mono fun x s q => .bind ((ih (k + 1) (r ++ [x]) s ed hlt q).mono fun y s q => .ret (by rw [List.append_assoc] at q; exact q)))
  exact (key us 0 [] st rfl (Nat.zero_le _) h0).mono fun x s q => q
theorem Wp.lc {wl : M (List U)} {wt : U → M Bool} {we : U → M U} (h : Wp wl st fun us s => Wp (compM wt we us) s fun r s => r.length ≤ sizeLine ∧ Q (.lst r) s) : Wp (lcW wl wt we) st Q := .bind (h.mono fun _ _ h => .bind (h.mono fun _ _ ⟨l, q⟩ => .o (if_pos l) q))
theorem Wp.while {c : S → M Bool} {b : S → M (Out S S)} {Q : Out S L → Sto → Prop} (I : Nat → S → Sto → Prop)
    (hs : ∀ n s st, I n s st → Wp (c s) st fun t st => if t = true then Wp (b s) st fun o st => match o with
      | .nx s' => ∃ m < n, I m s' st
      | .ct s' => ∃ m < n, I m s' st
      | .bk s' => Q (.nx s') st
      | .rt u => Q (.rt u) st else Q (.nx s) st) : ∀ {n : Nat} {s : S} {st : Sto}, I n s st → Wp (whileO c b s) st Q := by
  have key : ∀ (n : Nat) (s : S) (st : Sto), I n s st → Wp (whileN (L := L) c b (n + 1) s) st Q := by
    intro n
    induction n using Nat.strongRecOn with
    | _ n ih =>
      intro s st hi
      have up : ∀ {m k : Nat} {s : S} {st : Sto}, m ≤ k → Wp (whileN (L := L) c b m s) st Q → Wp (whileN (L := L) c b k s) st Q := by
        intro m k s st h w
        obtain ⟨a, s', e, q⟩ := w
        refine ⟨a, s', ?_, q⟩
        induction h with
        | refl => exact e
        | step _ ih => exact whileN_succ ih
      refine .bind ((hs n s st hi).mono fun t st q => ?_)
      cases t with
      | false => exact .ret q
      | true =>
        refine .bind (Wp.mono (show Wp (b s) st _ from q) fun o st q => ?_)
        cases o with
        | nx s' => obtain ⟨m, hm, q⟩ := q; exact up (by omega) (ih m hm s' st q)
        | ct s' => obtain ⟨m, hm, q⟩ := q; exact up (by omega) (ih m hm s' st q)
        | bk s' => exact .ret q
        | rt u => exact .ret q
  intro n s st hi
  obtain ⟨a, s', e, q⟩ := key n s st hi
  exact ⟨a, s', whileO_of e, q⟩
end
theorem pdAll_ints : ∀ cs : List Int, pdAll (cs.map U.int) = some (cs.map PyData.int)
  | [] => rfl
  | c :: cs => by simp [pdAll, pd, pdAll_ints cs]
theorem shaped_ints (cs : List Int) : SeqAt.shaped (.list (cs.map PyData.int)) = true :=
  EL.shaped_list (n := 5) (fun d hd => by obtain ⟨w, _, rfl⟩ := List.mem_map.mp hd; rfl) (fun d hd => by obtain ⟨w, _, rfl⟩ := List.mem_map.mp hd; simp [PyData.depth]) (by decide)
theorem neU_nil (cs : List Int) : neU (.lst (cs.map .int)) (.lst []) = some (.bl (!cs.isEmpty)) := by
  have e : pd (.lst (cs.map .int)) = some (.list (cs.map PyData.int)) := by simp [pd, pdAll_ints]
  show neD _ _ = _
  unfold neD
  rw [e, show pd (.lst []) = some (.list []) from rfl]
  simp only [shaped_ints, show SeqAt.shaped (.list []) = true from by decide, and_self, if_true]
  cases cs <;> simp [PyData.eqv, PyData.eqvAll]
theorem eqU_int (i j : Int) : eqU (.int i) (.int j) = some (.bl (decide (i = j))) := by
  show eqD (.int i) (.int j) = _
  unfold eqD
  rw [show pd (.int i) = some (.int i) from rfl, show pd (.int j) = some (.int j) from rfl]
  have h : ∀ i : Int, SeqAt.shaped (.int i) = true := fun i => by simp [SeqAt.shaped, PyData.canLay0, PyData.depth]
  simp only [h, and_self, if_true]
  simp only [PyData.eqv]
  rfl
theorem fdiv_at {i j : Int} (h : j ≠ 0) (h2 : j.natAbs < 1073741824) : fdivU (.int i) (.int j) = some (.int (i.fdiv j)) := if_pos ⟨h, h2⟩
theorem mod_at {i j : Int} (h : j ≠ 0) : modU (.int i) (.int j) = some (.int (i.fmod j)) := if_pos h
theorem mul_at {i j : Int} (h : L2.CMul i j) : mulU (.int i) (.int j) = some (.int (i * j)) := if_pos h
theorem pow_at {i j : Int} (h : L2.CPow i j) : powU (.int i) (.int j) = some (.int (i ^ j.toNat)) := if_pos h
theorem eqU_str {x y : Str} {b : Bool} (hb : decide (x = y) = b) : eqU (.str x) (.str y) = some (.bl b) := by rw [← hb]; rfl
theorem neU_str {x y : Str} {b : Bool} (hb : (!decide (x = y)) = b) : neU (.str x) (.str y) = some (.bl b) := by rw [← hb]; rfl
theorem leaf_ints (cs : List Int) : (cs.map U.int).all leafU = true := by
  rw [List.all_map, List.all_eq_true]; intro c _; rfl
def WpO {α : Type} (x : Option α) (P : α → Prop) : Prop := ∃ c, x = some c ∧ P c
def SeqK {S S' L : Type} (k : S → M (Out S' L)) (Q : Out S' L → Sto → Prop) : Out S L → Sto → Prop
  | .nx a, s => Wp (k a) s Q
  | .rt u, s => Q (.rt u) s
  | .bk l, s => Q (.bk l) s
  | .ct l, s => Q (.ct l) s
def FnK (Q : U → Sto → Prop) : Out Unit Unit → Sto → Prop
  | .rt u, s => Q u s
  | .nx _, s => Q .non s
  | _, _ => False
def ForK {S L : Type} (J : S → Sto → Prop) (Q : Out S L → Sto → Prop) : Out S S → Sto → Prop
  | .nx s, st => J s st
  | .ct s, st => J s st
  | .bk s, st => Q (.nx s) st
  | .rt u, st => Q (.rt u) st
def IfP (b : Bool) (A B : Prop) : Prop := if b = true then A else B
section
variable {α β S S' L : Type} {st : Sto} {Q : U → Sto → Prop} {QT : Bool → Sto → Prop} {QA : List U → Sto → Prop} {A B : Prop} {b : Bool}
theorem if_t (h : A) : IfP true A B := h
theorem if_f (h : B) : IfP false A B := h
theorem if_yes (e : b = true) (h : A) : IfP b A B := by subst e; exact h
theorem if_no (e : b = false) (h : B) : IfP b A B := by subst e; exact h
theorem if_p {p : Prop} [Decidable p] (h : p) (q : A) : IfP (decide p) A B := if_yes (decide_eq_true h) q
theorem if_n {p : Prop} [Decidable p] (h : ¬ p) (q : B) : IfP (decide p) A B := if_no (decide_eq_false h) q
theorem if_np {p : Prop} [Decidable p] (h : ¬ p) (q : A) : IfP (!decide p) A B := if_yes (by rw [decide_eq_false h]; rfl) q
theorem if_nn {p : Prop} [Decidable p] (h : p) (q : B) : IfP (!decide p) A B := if_no (by rw [decide_eq_true h]; rfl) q
theorem if_any (h1 : b = true → A) (h2 : b = false → B) : IfP b A B := by
  cases b
  · exact h2 rfl
  · exact h1 rfl
theorem wo_some {x : α} {P : α → Prop} (h : P x) : WpO (some x) P := ⟨x, rfl, h⟩
theorem wo_eq {x : Option α} {a : α} {P : α → Prop} (e : x = some a) (h : P a) : WpO x P := ⟨a, e, h⟩
theorem vs_ret {Q : α → Sto → Prop} {a : α} (h : Q a st) : Wp (.ret a) st Q := .ret h
theorem vs_eq {w : M α} {Q : α → Sto → Prop} {a : α} (e : w = .ret a) (h : Q a st) : Wp w st Q := e ▸ .ret h
theorem vs_o {x : Option α} {Q : α → Sto → Prop} (h : WpO x fun a => Q a st) : Wp (.o x) st Q := by obtain ⟨c, e, q⟩ := h; exact .o e q
theorem vs_op1 {f : U → Option U} {wa : M U} (h : Wp wa st fun a s => WpO (f a) fun c => Q c s) : Wp (op1 f wa) st Q := .op1 h
theorem vs_op2 {f : U → U → Option U} {wa wb : M U} (h : Wp wa st fun a s => Wp wb s fun b s => WpO (f a b) fun c => Q c s) : Wp (op2 f wa wb) st Q := .op2 h
theorem vs_test {wa : M U} (h : Wp wa st fun a s => WpO (boolU a) fun b => QT b s) : Wp (testW wa) st QT := .bind (h.mono fun _ _ q => vs_o q)
theorem vs_not {w : M Bool} (h : Wp w st fun b s => QT (!b) s) : Wp (notT w) st QT := .not h
theorem vs_and {w w' : M Bool} (h : Wp w st fun b s => IfP b (Wp w' s QT) (QT false s)) : Wp (andT w w') st QT := .and h
theorem vs_or {w w' : M Bool} (h : Wp w st fun b s => IfP b (QT true s) (Wp w' s QT)) : Wp (orT w w') st QT := .or h
theorem vs_andW {w w' : M U} (h : Wp (testW w) st fun b s => IfP b (Wp w' s Q) (Q (.bl false) s)) : Wp (andW w w') st Q := .andW h
theorem vs_orW {w w' : M U} (h : Wp (testW w) st fun b s => IfP b (Q (.bl true) s) (Wp w' s Q)) : Wp (orW w w') st Q := .orW h
theorem vs_ite {Q : α → Sto → Prop} {c : M Bool} {w w' : M α} (h : Wp c st fun b s => IfP b (Wp w s Q) (Wp w' s Q)) : Wp (iteW c w w') st Q := .ite h
theorem vs_chain {f g : U → U → Option U} {wa wb wc : M U} (h : Wp wa st fun a s => Wp wb s fun b s => WpO (f a b) fun t => WpO (boolU t) fun k => IfP k (Wp wc s fun c s => WpO (g b c) fun r => Q r s) (Q (.bl false) s)) : Wp (chainW f g wa wb wc) st Q :=
  .bind (h.mono fun a _ h => .bind (h.mono fun b s h => .bind (vs_test (vs_o (by
    obtain ⟨t, e, k, e', q⟩ := h
    refine ⟨t, e, k, e', ?_⟩
    cases k with
    | false => exact .ret q
    | true => exact .bind (Wp.mono (show Wp wc s _ from q) fun c s q => vs_o q))))))
theorem vs_consA {wa : M U} {wr : M (List U)} (h : Wp wa st fun a s => Wp wr s fun r s => QA (a :: r) s) : Wp (consA wa wr) st QA := .consA h
theorem vs_nilA (h : QA [] st) : Wp nilA st QA := .ret h
theorem vs_tup {wa : M (List U)} (h : Wp wa st fun us s => us.length ≤ sizeLine ∧ Q (.tup us) s) : Wp (tupW wa) st Q := .tup h
theorem vs_lst {wa : M (List U)} (h : Wp wa st fun us s => us.length ≤ sizeLine ∧ Q (.lst us) s) : Wp (lstW wa) st Q := .lst h
theorem vs_call {f : List U → M U} {wa : M (List U)} (h : Wp wa st fun us s => Wp (f us) s Q) : Wp (callM f wa) st Q := .call h
theorem vs_meth {c m : Str} {f : List U → M U} {wo : M U} {wa : M (List U)} (h : Wp wo st fun o s => WpO (isObj c m o) fun _ => Wp wa s fun us s => Wp (f (o :: us)) s Q) : Wp (methM c m f wo wa) st Q :=
  .bind (h.mono fun o s h => .bind (vs_o (by obtain ⟨x, e, q⟩ := h; exact ⟨x, e, .bind q⟩)))
theorem vs_L0 {f : M U} (h : Wp f st Q) : Wp (L0 f []) st Q := h
theorem vs_L1 {f : U → M U} {a : U} (h : Wp (f a) st Q) : Wp (L1 f [a]) st Q := h
theorem vs_L2 {f : U → U → M U} {a b : U} (h : Wp (f a b) st Q) : Wp (L2' f [a, b]) st Q := h
theorem vs_L3 {f : U → U → U → M U} {a b c : U} (h : Wp (f a b c) st Q) : Wp (L3 f [a, b, c]) st Q := h
theorem vs_L4 {f : U → U → U → U → M U} {a b c d : U} (h : Wp (f a b c d) st Q) : Wp (L4 f [a, b, c, d]) st Q := h
theorem vs_L5 {f : U → U → U → U → U → M U} {a b c d e : U} (h : Wp (f a b c d e) st Q) : Wp (L5 f [a, b, c, d, e]) st Q := h
theorem vs_L6 {f : U → U → U → U → U → U → M U} {a b c d e g : U} (h : Wp (f a b c d e g) st Q) : Wp (L6 f [a, b, c, d, e, g]) st Q := h
theorem vs_seq {Q : Out S' L → Sto → Prop} {w : M (Out S L)} {k : S → M (Out S' L)} (h : Wp w st (SeqK k Q)) : Wp (seqO w k) st Q := .seq (h.mono fun o s q => by cases o <;> exact q)
theorem sk_nx {k : S → M (Out S' L)} {Q : Out S' L → Sto → Prop} {a : S} (h : Wp (k a) st Q) : SeqK (L := L) k Q (.nx a) st := h
theorem sk_rt {k : S → M (Out S' L)} {Q : Out S' L → Sto → Prop} {u : U} (h : Q (.rt u) st) : SeqK (L := L) k Q (.rt u) st := h
theorem sk_bk {k : S → M (Out S' L)} {Q : Out S' L → Sto → Prop} {u : L} (h : Q (.bk u) st) : SeqK (L := L) k Q (.bk u) st := h
theorem sk_ct {k : S → M (Out S' L)} {Q : Out S' L → Sto → Prop} {u : L} (h : Q (.ct u) st) : SeqK (L := L) k Q (.ct u) st := h
theorem fk_rt {u : U} (h : Q u st) : FnK Q (.rt u) st := h
theorem fk_nx {u : Unit} (h : Q .non st) : FnK Q (.nx u) st := h
theorem ok_nx {J : S → Sto → Prop} {Q : Out S L → Sto → Prop} {s : S} (h : J s st) : ForK J Q (.nx s) st := h
theorem ok_ct {J : S → Sto → Prop} {Q : Out S L → Sto → Prop} {s : S} (h : J s st) : ForK J Q (.ct s) st := h
theorem ok_bk {J : S → Sto → Prop} {Q : Out S L → Sto → Prop} {s : S} (h : Q (.nx s) st) : ForK J Q (.bk s) st := h
theorem ok_rt {J : S → Sto → Prop} {Q : Out S L → Sto → Prop} {u : U} (h : Q (.rt u) st) : ForK J Q (.rt u) st := h
theorem vs_rt {Q : Out S L → Sto → Prop} {w : M U} (h : Wp w st fun u s => Q (.rt u) s) : Wp (rtO w) st Q := .rt h
theorem vs_nx {Q : Out S L → Sto → Prop} {s : S} (h : Q (.nx s) st) : Wp (nxO s) st Q := .ret h
theorem vs_fn {w : M (Out Unit Unit)} (h : Wp w st (FnK Q)) : Wp (fnM w) st Q := .fn (h.mono fun o s q => by cases o <;> exact q)
theorem vs_noP {Q : Option Int → Sto → Prop} (h : Q none st) : Wp noP st Q := .ret h
theorem vs_someP {Q : Option Int → Sto → Prop} {w : M U} (h : Wp w st fun u s => WpO (intU u) fun i => Q (some i) s) : Wp (someP w) st Q := .bind (h.mono fun u s q => vs_o (by obtain ⟨i, e, q⟩ := q; exact ⟨some i, by rw [e]; rfl, q⟩))
theorem vs_sl {wa : M U} {wl wh : M (Option Int)} (h : Wp wa st fun a s => Wp wl s fun l s => Wp wh s fun h s => WpO (slU a l h) fun c => Q c s) : Wp (slW wa wl wh) st Q := .bind (h.mono fun _ _ h => .bind (h.mono fun _ _ h => .bind (h.mono fun _ _ h => vs_o h)))
theorem vs_it {w : M U} (h : Wp w st fun u s => WpO (itU u) fun r => QA r s) : Wp (itW w) st QA := .bind (h.mono fun _ _ h => vs_o h)
theorem vs_rng1 {w : M U} (h : Wp w st fun u s => WpO (rng1U u) fun r => QA r s) : Wp (rng1W w) st QA := .bind (h.mono fun _ _ h => vs_o h)
theorem vs_rng2 {w w' : M U} (h : Wp w st fun u s => Wp w' s fun u' s => WpO (rng2U u u') fun r => QA r s) : Wp (rng2W w w') st QA := .bind (h.mono fun _ _ h => .bind (h.mono fun _ _ h => vs_o h))
theorem vs_zip {w w' : M U} (h : Wp w st fun u s => Wp w' s fun u' s => WpO (zipU u u') fun r => QA r s) : Wp (zipW w w') st QA := .bind (h.mono fun _ _ h => .bind (h.mono fun _ _ h => vs_o h))
theorem vs_un2 {Q : α → Sto → Prop} {a b : U} {k : U → U → M α} (h : Wp (k a b) st Q) : Wp (un2 (.tup [a, b]) k) st Q := h
theorem vs_un3 {Q : α → Sto → Prop} {a b c : U} {k : U → U → U → M α} (h : Wp (k a b c) st Q) : Wp (un3 (.tup [a, b, c]) k) st Q := h
theorem vs_un4 {Q : α → Sto → Prop} {a b c d : U} {k : U → U → U → U → M α} (h : Wp (k a b c d) st Q) : Wp (un4 (.tup [a, b, c, d]) k) st Q := h
theorem vs_un5 {Q : α → Sto → Prop} {a b c d e : U} {k : U → U → U → U → U → M α} (h : Wp (k a b c d e) st Q) : Wp (un5 (.tup [a, b, c, d, e]) k) st Q := h
theorem vs_un6 {Q : α → Sto → Prop} {a b c d e f : U} {k : U → U → U → U → U → U → M α} (h : Wp (k a b c d e f) st Q) : Wp (un6 (.tup [a, b, c, d, e, f]) k) st Q := h
theorem vs_lc {wl : M (List U)} {wt : U → M Bool} {we : U → M U} (h : Wp wl st fun us s => Wp (compM wt we us) s fun r s => r.length ≤ sizeLine ∧ Q (.lst r) s) : Wp (lcW wl wt we) st Q := .lc h
theorem vs_lc2 {wl : M (List U)} {wt : U → M Bool} {w1 : U → M (List U)} {wt1 : U → U → M Bool} {we : U → U → M U} (h : Wp wl st fun us s => Wp (comp2M wt w1 wt1 we us) s fun r s => r.length ≤ sizeLine ∧ Q (.lst r) s) : Wp (lc2W wl wt w1 wt1 we) st Q := .bind (h.mono fun _ _ h => .bind (h.mono fun _ _ ⟨l, q⟩ => .o (if_pos l) q))
theorem vs_for {τ σ : Type} {c : τ → U} {e : σ → S} {f : U → S → M (Out S S)} {Q : Out S L → Sto → Prop} {xs : List τ} (I : List τ → σ → Sto → Prop) {s0 : S} {t0 : σ} (he : s0 = e t0) (h0 : I [] t0 st)
    (hs : ∀ (pre : List τ) (x : τ) (post : List τ) (s : σ) (st : Sto), xs = pre ++ x :: post → I pre s st → Wp (f (c x) (e s)) st (ForK (fun s' st' => ∃ t, s' = e t ∧ I (pre ++ [x]) t st') Q))
    (hd : ∀ s st, I xs s st → Q (.nx (e s)) st) : Wp (forO f (xs.map c) s0) st Q := by
  subst he
  have key : ∀ (post pre : List τ) (s : σ) (st : Sto), xs = pre ++ post → I pre s st → Wp (forO (L := L) f (post.map c) (e s)) st Q := by
    intro post
    induction post with
    | nil => intro pre s st ex hi; rw [List.append_nil] at ex; subst ex; exact .ret (hd s st hi)
    | cons x post ih =>
      intro pre s st ex hi
      refine .bind ((hs pre x post s st ex hi).mono fun o st' q => ?_)
      cases o with
      | nx s' => obtain ⟨t, rfl, q⟩ := q; exact ih (pre ++ [x]) t st' (by rw [ex]; simp) q
      | ct s' => obtain ⟨t, rfl, q⟩ := q; exact ih (pre ++ [x]) t st' (by rw [ex]; simp) q
      | bk s' => exact .ret q
      | rt u => exact .ret q
  exact key xs [] t0 st rfl h0
theorem vs_forN {σ : Type} {e : σ → S} {f : U → S → M (Out S S)} {Q : Out S L → Sto → Prop} {n : Nat} (I : Nat → σ → Sto → Prop) {s0 : S} {t0 : σ} (he : s0 = e t0) (h0 : I 0 t0 st)
    (hs : ∀ (i : Nat) (s : σ) (st : Sto), i < n → I i s st → Wp (f (.int (i : Nat)) (e s)) st (ForK (fun s' st' => ∃ t, s' = e t ∧ I (i + 1) t st') Q))
    (hd : ∀ s st, I n s st → Q (.nx (e s)) st) : Wp (forO f ((List.range n).map fun i => .int (i : Nat)) s0) st Q := by
  subst he
  refine vs_for (c := fun i : Nat => U.int (i : Nat)) (e := e) (xs := List.range n) (fun pre s st => pre = List.range pre.length ∧ I pre.length s st) (t0 := t0) rfl ⟨rfl, h0⟩ ?_ ?_
  · rintro pre x post s st ex ⟨hp, hi⟩
    have hl : pre.length < n := by have := congrArg List.length ex; simp at this; omega
    have hx : x = pre.length := by
      have h1 : (List.range n)[pre.length]? = some x := by rw [ex]; simp
      rw [List.getElem?_range hl] at h1
      exact (Option.some.inj h1).symm
    subst hx
    refine (hs pre.length s st hl hi).mono fun o st' q => ?_
    have hp' : pre ++ [pre.length] = List.range (pre ++ [pre.length]).length := by
      rw [List.length_append, List.length_singleton, List.range_succ, ← hp]
    cases o with
    | nx s' => obtain ⟨t, rfl, q⟩ := q; exact ⟨t, rfl, hp', by simpa using q⟩
    | ct s' => obtain ⟨t, rfl, q⟩ := q; exact ⟨t, rfl, hp', by simpa using q⟩
    | bk s' => exact q
    | rt u => exact q
  · rintro s st ⟨_, hi⟩
    exact hd s st (by simpa using hi)
theorem vs_comp {τ κ : Type} {c : τ → U} {d : κ → U} {wt : U → M Bool} {we : U → M U} {xs : List τ} (I : List τ → List κ → Sto → Prop) (h0 : I [] [] st)
    (hs : ∀ (pre : List τ) (x : τ) (post : List τ) (r : List κ) (st : Sto), xs = pre ++ x :: post → I pre r st → Wp (wt (c x)) st fun b s => IfP b (Wp (we (c x)) s fun y s => ∃ z, y = d z ∧ I (pre ++ [x]) (r ++ [z]) s) (I (pre ++ [x]) r s))
    (hd : ∀ r st, I xs r st → QA (r.map d) st) : Wp (compM wt we (xs.map c)) st QA := by
  have key : ∀ (post pre : List τ) (r : List κ) (st : Sto), xs = pre ++ post → I pre r st → Wp (compM wt we (post.map c)) st fun x s => QA (r.map d ++ x) s := by
    intro post
    induction post with
    | nil => intro pre r st ex hi; rw [List.append_nil] at ex; subst ex; exact .ret (by rw [List.append_nil]; exact hd r st hi)
    | cons x post ih =>
      intro pre r st ex hi
      refine .bind ((hs pre x post r st ex hi).mono fun b s q => ?_)
      cases b with
      | false => exact ih (pre ++ [x]) r s (by rw [ex]; simp) q
      | true => exact .bind (Wp.mono (show Wp (we (c x)) s _ from q) fun y s ⟨z, ey, q⟩ => .bind ((ih (pre ++ [x]) (r ++ [z]) s (by rw [ex]; simp) q).mono fun y' s q => .ret (by subst ey; simpa using q)))
  exact (key xs [] [] st rfl h0).mono fun x s q => q
theorem vs_compN {κ : Type} {d : κ → U} {wt : U → M Bool} {we : U → M U} {n : Nat} (I : Nat → List κ → Sto → Prop) (h0 : I 0 [] st)
    (hs : ∀ (i : Nat) (r : List κ) (st : Sto), i < n → I i r st → Wp (wt (.int (i : Nat))) st fun b s => IfP b (Wp (we (.int (i : Nat))) s fun y s => ∃ z, y = d z ∧ I (i + 1) (r ++ [z]) s) (I (i + 1) r s))
    (hd : ∀ r st, I n r st → QA (r.map d) st) : Wp (compM wt we ((List.range n).map fun i => .int (i : Nat))) st QA := by
  refine vs_comp (c := fun i : Nat => U.int (i : Nat)) (d := d) (xs := List.range n) (fun pre r st => pre = List.range pre.length ∧ I pre.length r st) ⟨rfl, h0⟩ ?_ ?_
  · rintro pre x post r st ex ⟨hp, hi⟩
    have hl : pre.length < n := by have := congrArg List.length ex; simp at this; omega
    have hx : x = pre.length := by
      have h1 : (List.range n)[pre.length]? = some x := by rw [ex]; simp
      rw [List.getElem?_range hl] at h1
      exact (Option.some.inj h1).symm
    subst hx
    have hp' : pre ++ [pre.length] = List.range (pre ++ [pre.length]).length := by
      rw [List.length_append, List.length_singleton, List.range_succ, ← hp]
    refine (hs pre.length r st hl hi).mono fun b st' q => ?_
    cases b with
    | false => exact ⟨hp', by simpa using (show I (pre.length + 1) r st' from q)⟩
    | true => exact Wp.mono (show Wp (we _) st' _ from q) fun y s ⟨z, e, q⟩ => ⟨z, e, hp', by simpa using q⟩
  · rintro r st ⟨_, hi⟩
    exact hd r st (by simpa using hi)
end
section
variable {α β : Type}
theorem eq_of_wp {w : M α} {a : α} (h : ∀ st, Wp w st fun x s => x = a ∧ s = st) : w = .ret a := by
  funext st
  obtain ⟨x, s, e, rfl, rfl⟩ := h st
  exact e
theorem comp_eq {τ κ : Type} {c : τ → U} {d : κ → U} {wt : U → M Bool} {we : U → M U} {p : τ → Bool} {g : τ → κ} : ∀ {xs : List τ}, (∀ x ∈ xs, wt (c x) = .ret (p x) ∧ (p x = true → we (c x) = .ret (d (g x)))) → compM wt we (xs.map c) = .ret (((xs.filter p).map g).map d)
  | [], _ => rfl
  | x :: xs, h => by
    have ih := comp_eq (xs := xs) fun y m => h y (List.mem_cons_of_mem _ m)
    obtain ⟨h1, h2⟩ := h x List.mem_cons_self
    rw [List.map_cons, compM, h1, M.bind_ret, List.filter_cons]
    cases e : p x with
    | false => exact ih
    | true => rw [if_pos rfl, h2 e, M.bind_ret, ih]; rfl
end
mutual
def wtU : U → Nat
  | .tup us => wtA us
  | .lst us => wtA us
  | _ => 100
def wtA : List U → Nat
  | [] => 0
  | u :: us => wtU u + 1 + wtA us
end
mutual
def dpU : U → Nat
  | .tup us => dpA us + 1
  | .lst us => dpA us + 1
  | _ => 0
def dpA : List U → Nat
  | [] => 0
  | u :: us => max (dpU u) (dpA us)
end
structure SmD (u : U) (d : PyData) : Prop where
  pd : pd u = some d
  sh : d.showable = true
  nd : d.hasDict = false
  dp : d.depth = dpU u
  ls : d.leavesShort 13 = true
  wt : d.weight ≤ wtU u
  cl : d.canLay0 = true
structure SmDA (us : List U) (ds : List PyData) : Prop where
  pd : pdAll us = some ds
  sh : PyData.showableAll ds = true
  nd : PyData.hasDictAll ds = false
  dp : PyData.depthAll ds = dpA us
  ls : PyData.leavesShortAll 13 ds = true
  wt : PyData.weightAll ds ≤ wtA us
  cl : PyData.canLayAll0 ds = true
theorem log_small {i : Int} (h : i.natAbs < 1000000000000) : i.natAbs.log2 < 41 := by
  by_cases z : i.natAbs = 0
  · rw [z]; decide
  · exact (Nat.log2_lt z).mpr (Nat.lt_of_lt_of_le h (by decide))
mutual
def nbU : U → Bool
  | .int _ => true
  | .non => true
  | .str x => PyData.strOk x
  | .tup us => nbA us
  | .lst us => nbA us
  | _ => false
def nbA : List U → Bool
  | [] => true
  | u :: us => nbU u && nbA us
end
structure NbD (u : U) (d : PyData) : Prop where
  pd : pd u = some d
  dp : d.depth = dpU u
  cl : d.canLay0 = true
structure NbDA (us : List U) (ds : List PyData) : Prop where
  pd : pdAll us = some ds
  dp : PyData.depthAll ds = dpA us
  cl : PyData.canLayAll0 ds = true
mutual
theorem nb_pd : ∀ u : U, nbU u = true → ∃ d, NbD u d
  | .non, _ => ⟨.none, rfl, rfl, rfl⟩
  | .int i, _ => ⟨.int i, rfl, rfl, rfl⟩
  | .str x, h => ⟨.str x, rfl, rfl, by simpa [nbU, PyData.canLay0] using h⟩
  | .tup us, h => by
    obtain ⟨ds, e⟩ := nbA_pd us h
    exact ⟨.tuple ds, by simp [pd, e.pd], by simp [PyData.depth, dpU, e.dp], by simpa [PyData.canLay0] using e.cl⟩
  | .lst us, h => by
    obtain ⟨ds, e⟩ := nbA_pd us h
    exact ⟨.list ds, by simp [pd, e.pd], by simp [PyData.depth, dpU, e.dp], by simpa [PyData.canLay0] using e.cl⟩
  | .bl _, h => by simp [nbU] at h
  | .dct _ _, h => by simp [nbU] at h
  | .dcT _ _, h => by simp [nbU] at h
  | .obj _ _ _, h => by simp [nbU] at h
  | .top _, h => by simp [nbU] at h
  | .frl _, h => by simp [nbU] at h
  | .loc _, h => by simp [nbU] at h
  | .exc _, h => by simp [nbU] at h
  | .exo _ _ _, h => by simp [nbU] at h
theorem nbA_pd : ∀ us : List U, nbA us = true → ∃ ds, NbDA us ds
  | [], _ => ⟨[], rfl, rfl, rfl⟩
  | u :: us, h => by
    have h : nbU u = true ∧ nbA us = true := by simpa [nbA] using h
    obtain ⟨d, e⟩ := nb_pd u h.1
    obtain ⟨ds, f⟩ := nbA_pd us h.2
    exact ⟨d :: ds, by simp [pdAll, e.pd, f.pd], by simp [PyData.depthAll, dpA, e.dp, f.dp], by simp [PyData.canLayAll0, e.cl, f.cl]⟩
end
theorem pdAll_cons {u : U} {us : List U} {ds : List PyData} (h : pdAll (u :: us) = some ds) : ∃ d r, ds = d :: r ∧ pd u = some d ∧ pdAll us = some r := by
  rw [pdAll] at h
  cases e : pd u with
  | none => rw [e] at h; cases h
  | some d =>
    cases f : pdAll us with
    | none => rw [e, f] at h; cases h
    | some r => rw [e, f] at h; cases h; exact ⟨d, r, rfl, rfl, rfl⟩
theorem pd_tup {us : List U} {d : PyData} (h : pd (.tup us) = some d) : ∃ ds, d = .tuple ds ∧ pdAll us = some ds := by
  obtain ⟨ds, e, rfl⟩ := Option.map_eq_some_iff.mp (show (pdAll us).map .tuple = some d from h)
  exact ⟨ds, rfl, e⟩
theorem pd_lst {us : List U} {d : PyData} (h : pd (.lst us) = some d) : ∃ ds, d = .list ds ∧ pdAll us = some ds := by
  obtain ⟨ds, e, rfl⟩ := Option.map_eq_some_iff.mp (show (pdAll us).map .list = some d from h)
  exact ⟨ds, rfl, e⟩
mutual
theorem eqv_iff : ∀ (u v : U) (d e : PyData), nbU u = true → nbU v = true → pd u = some d → pd v = some e → (PyData.eqv d e = true ↔ u = v)
  | .non, v, d, e, _, hv, e1, e2 => by
    cases e1
    cases v <;> simp [nbU] at hv <;> first
      | (cases e2; simp [PyData.eqv])
      | (obtain ⟨ds, rfl, _⟩ := pd_tup e2; simp [PyData.eqv])
      | (obtain ⟨ds, rfl, _⟩ := pd_lst e2; simp [PyData.eqv])
  | .int i, v, d, e, _, hv, e1, e2 => by
    cases e1
    cases v <;> simp [nbU] at hv <;> first
      | (cases e2; simp [PyData.eqv])
      | (obtain ⟨ds, rfl, _⟩ := pd_tup e2; simp [PyData.eqv])
      | (obtain ⟨ds, rfl, _⟩ := pd_lst e2; simp [PyData.eqv])
  | .str i, v, d, e, _, hv, e1, e2 => by
    cases e1
    cases v <;> simp [nbU] at hv <;> first
      | (cases e2; simp [PyData.eqv])
      | (obtain ⟨ds, rfl, _⟩ := pd_tup e2; simp [PyData.eqv])
      | (obtain ⟨ds, rfl, _⟩ := pd_lst e2; simp [PyData.eqv])
  | .tup us, v, d, e, hu, hv, e1, e2 => by
    obtain ⟨ds, rfl, f⟩ := pd_tup e1
    cases v with
    | tup vs =>
      obtain ⟨es, rfl, g⟩ := pd_tup e2
      rw [PyData.eqv, eqvA_iff us vs ds es hu hv f g]
      simp
    | lst vs => obtain ⟨es, rfl, g⟩ := pd_lst e2; simp [PyData.eqv]
    | non => cases e2; simp [PyData.eqv]
    | int _ => cases e2; simp [PyData.eqv]
    | str _ => cases e2; simp [PyData.eqv]
    | _ => simp [nbU] at hv
  | .lst us, v, d, e, hu, hv, e1, e2 => by
    obtain ⟨ds, rfl, f⟩ := pd_lst e1
    cases v with
    | lst vs =>
      obtain ⟨es, rfl, g⟩ := pd_lst e2
      rw [PyData.eqv, eqvA_iff us vs ds es hu hv f g]
      simp
    | tup vs => obtain ⟨es, rfl, g⟩ := pd_tup e2; simp [PyData.eqv]
    | non => cases e2; simp [PyData.eqv]
    | int _ => cases e2; simp [PyData.eqv]
    | str _ => cases e2; simp [PyData.eqv]
    | _ => simp [nbU] at hv
  | .bl _, _, _, _, h, _, _, _ => by simp [nbU] at h
  | .dct _ _, _, _, _, h, _, _, _ => by simp [nbU] at h
  | .dcT _ _, _, _, _, h, _, _, _ => by simp [nbU] at h
  | .obj _ _ _, _, _, _, h, _, _, _ => by simp [nbU] at h
  | .top _, _, _, _, h, _, _, _ => by simp [nbU] at h
  | .frl _, _, _, _, h, _, _, _ => by simp [nbU] at h
  | .loc _, _, _, _, h, _, _, _ => by simp [nbU] at h
  | .exc _, _, _, _, h, _, _, _ => by simp [nbU] at h
  | .exo _ _ _, _, _, _, h, _, _, _ => by simp [nbU] at h
theorem eqvA_iff : ∀ (us vs : List U) (ds es : List PyData), nbA us = true → nbA vs = true → pdAll us = some ds → pdAll vs = some es → (PyData.eqvAll ds es = true ↔ us = vs)
  | [], [], ds, es, _, _, e1, e2 => by cases e1; cases e2; simp [PyData.eqvAll]
  | [], v :: vs, ds, es, _, _, e1, e2 => by
    cases e1
    obtain ⟨d, r, rfl, _, _⟩ := pdAll_cons e2
    simp [PyData.eqvAll]
  | u :: us, [], ds, es, _, _, e1, e2 => by
    cases e2
    obtain ⟨d, r, rfl, _, _⟩ := pdAll_cons e1
    simp [PyData.eqvAll]
  | u :: us, v :: vs, ds, es, hu, hv, e1, e2 => by
    have hu : nbU u = true ∧ nbA us = true := by simpa [nbA] using hu
    have hv : nbU v = true ∧ nbA vs = true := by simpa [nbA] using hv
    obtain ⟨d, r, rfl, f1, f2⟩ := pdAll_cons e1
    obtain ⟨e, s, rfl, g1, g2⟩ := pdAll_cons e2
    rw [PyData.eqvAll, Bool.and_eq_true_iff, eqv_iff u v d e hu.1 hv.1 f1 g1, eqvA_iff us vs r s hu.2 hv.2 f2 g2]
    simp
end
theorem eqD_nb {u v : U} (hu : nbU u = true) (hv : nbU v = true) (du : dpU u ≤ 64) (dv : dpU v ≤ 64) {b : Bool} (hb : b = true ↔ u = v) : eqD u v = some (.bl b) := by
  obtain ⟨d, e⟩ := nb_pd u hu
  obtain ⟨d', e'⟩ := nb_pd v hv
  have h := eqv_iff u v d d' hu hv e.pd e'.pd
  have s1 : SeqAt.shaped d = true := by simp only [SeqAt.shaped, e.cl, e.dp, Bool.true_and]; exact decide_eq_true du
  have s2 : SeqAt.shaped d' = true := by simp only [SeqAt.shaped, e'.cl, e'.dp, Bool.true_and]; exact decide_eq_true dv
  unfold eqD
  rw [e.pd, e'.pd]
  have : PyData.eqv d d' = b := by rw [Bool.eq_iff_iff, h, hb]
  simp only [s1, s2, this, and_self, if_true]
theorem neD_nb {u v : U} (hu : nbU u = true) (hv : nbU v = true) (du : dpU u ≤ 64) (dv : dpU v ≤ 64) {b : Bool} (hb : b = true ↔ u = v) : neD u v = some (.bl (!b)) := by
  obtain ⟨d, e⟩ := nb_pd u hu
  obtain ⟨d', e'⟩ := nb_pd v hv
  have h := eqv_iff u v d d' hu hv e.pd e'.pd
  have s1 : SeqAt.shaped d = true := by simp only [SeqAt.shaped, e.cl, e.dp, Bool.true_and]; exact decide_eq_true du
  have s2 : SeqAt.shaped d' = true := by simp only [SeqAt.shaped, e'.cl, e'.dp, Bool.true_and]; exact decide_eq_true dv
  unfold neD
  rw [e.pd, e'.pd]
  have : PyData.eqv d d' = b := by rw [Bool.eq_iff_iff, h, hb]
  simp only [s1, s2, this, and_self, if_true]
theorem eqU_nb {u v : U} (hu : nbU u = true) (hv : nbU v = true) (du : dpU u ≤ 64) (dv : dpU v ≤ 64) {b : Bool} (hb : b = true ↔ u = v) : eqU u v = some (.bl b) := by
  cases u with
  | str x =>
    cases v with
    | str y => exact eqU_str (by rw [Bool.eq_iff_iff, hb]; simp)
    | _ => exact eqD_nb hu hv du dv hb
  | _ => exact eqD_nb hu hv du dv hb
theorem neU_nb {u v : U} (hu : nbU u = true) (hv : nbU v = true) (du : dpU u ≤ 64) (dv : dpU v ≤ 64) {b : Bool} (hb : b = true ↔ u = v) : neU u v = some (.bl (!b)) := by
  cases u with
  | str x =>
    cases v with
    | str y => exact neU_str (by congr 1; rw [Bool.eq_iff_iff, hb]; simp)
    | _ => exact neD_nb hu hv du dv hb
  | _ => exact neD_nb hu hv du dv hb
theorem nbA_map {τ : Type} {c : τ → U} : ∀ {xs : List τ}, (∀ x ∈ xs, nbU (c x) = true) → nbA (xs.map c) = true
  | [], _ => rfl
  | x :: xs, h => by simp [nbA, h x List.mem_cons_self, nbA_map fun y m => h y (List.mem_cons_of_mem _ m)]
theorem nb_ints (xs : List Int) : nbA (xs.map .int) = true := nbA_map fun _ _ => rfl
end UX
namespace UX
open PySem PySem.Spec L2
section
variable {P : U → Prop} {i j : Int} {a b : List U} {x y : Str}
theorem wo_add_i (h : P (.int (i + j))) : WpO (addU (.int i) (.int j)) P := ⟨_, rfl, h⟩
theorem wo_add_l (l : a.length + b.length ≤ sizeLine) (h : P (.lst (a ++ b))) : WpO (addU (.lst a) (.lst b)) P := ⟨_, if_pos l, h⟩
theorem wo_sub (h : P (.int (i - j))) : WpO (subU (.int i) (.int j)) P := ⟨_, rfl, h⟩
theorem wo_mul (c : (-18446744073709551616 < i ∧ i < 18446744073709551616) ∨ (-18446744073709551616 < j ∧ j < 18446744073709551616)) (h : P (.int (i * j))) : WpO (mulU (.int i) (.int j)) P := ⟨_, if_pos c, h⟩
theorem wo_mod (c : j ≠ 0) (h : P (.int (i.fmod j))) : WpO (modU (.int i) (.int j)) P := ⟨_, if_pos c, h⟩
theorem wo_modp (c : 0 < j) (h : ∀ r : Int, r = i.fmod j → 0 ≤ r → r < j → P (.int r)) : WpO (modU (.int i) (.int j)) P := ⟨_, if_pos (by omega), h _ rfl (Int.fmod_nonneg_of_pos _ c) (Int.fmod_lt_of_pos _ c)⟩
theorem wo_fdiv (c : j ≠ 0) (c2 : j.natAbs < 1073741824) (h : P (.int (i.fdiv j))) : WpO (fdivU (.int i) (.int j)) P := ⟨_, if_pos ⟨c, c2⟩, h⟩
theorem wo_neg (h : P (.int (-i))) : WpO (negU (.int i)) P := ⟨_, rfl, h⟩
theorem wo_le (h : P (.bl (decide (i ≤ j)))) : WpO (leU (.int i) (.int j)) P := ⟨_, rfl, h⟩
theorem wo_lt (h : P (.bl (decide (i < j)))) : WpO (ltU (.int i) (.int j)) P := ⟨_, rfl, h⟩
theorem wo_gt (h : P (.bl (decide (j < i)))) : WpO (gtU (.int i) (.int j)) P := ⟨_, rfl, h⟩
theorem wo_ge (h : P (.bl (decide (j ≤ i)))) : WpO (geU (.int i) (.int j)) P := ⟨_, rfl, h⟩
theorem wo_eq_i (h : P (.bl (decide (i = j)))) : WpO (eqU (.int i) (.int j)) P := ⟨_, eqU_int i j, h⟩
theorem neU_i (i j : Int) : neU (.int i) (.int j) = some (.bl (!decide (i = j))) := neU_nb (u := .int i) (v := .int j) rfl rfl (Nat.zero_le _) (Nat.zero_le _) (b := decide (i = j)) (by simp)
theorem wo_ne_i (h : P (.bl (!decide (i = j)))) : WpO (neU (.int i) (.int j)) P := ⟨_, neU_i i j, h⟩
theorem wo_eq_s (h : P (.bl (decide (x = y)))) : WpO (eqU (.str x) (.str y)) P := ⟨_, rfl, h⟩
theorem wo_ne_s (h : P (.bl (!decide (x = y)))) : WpO (neU (.str x) (.str y)) P := ⟨_, rfl, h⟩
theorem wo_not {t : Bool} (h : P (.bl (!t))) : WpO (notU (.bl t)) P := ⟨_, rfl, h⟩
theorem wo_bool {t : Bool} {P : Bool → Prop} (h : P t) : WpO (boolU (.bl t)) P := ⟨_, rfl, h⟩
theorem wo_int {P : Int → Prop} (h : P i) : WpO (intU (.int i)) P := ⟨_, rfl, h⟩
theorem wo_len_t (h : P (.int a.length)) : WpO (lenU (.tup a)) P := ⟨_, rfl, h⟩
theorem wo_len_l (h : P (.int a.length)) : WpO (lenU (.lst a)) P := ⟨_, rfl, h⟩
theorem wo_len_f (h : P (.int a.length)) : WpO (lenU (.frl a)) P := ⟨_, rfl, h⟩
theorem wo_tuple_l (h : P (.tup a)) : WpO (tupleU (.lst a)) P := ⟨_, rfl, h⟩
theorem wo_tuple_t (h : P (.tup a)) : WpO (tupleU (.tup a)) P := ⟨_, rfl, h⟩
theorem wo_list_l (h : P (.lst a)) : WpO (listU (.lst a)) P := ⟨_, rfl, h⟩
theorem wo_list_t (h : P (.lst a)) : WpO (listU (.tup a)) P := ⟨_, rfl, h⟩
theorem wo_it_t {P : List U → Prop} (h : P a) : WpO (itU (.tup a)) P := ⟨_, rfl, h⟩
theorem wo_it_l {P : List U → Prop} (h : P a) : WpO (itU (.lst a)) P := ⟨_, rfl, h⟩
theorem wo_it_f {P : List U → Prop} (h : P a) : WpO (itU (.frl a)) P := ⟨_, rfl, h⟩
theorem wo_rng1 {P : List U → Prop} (c : -1000000000 < i ∧ i < 1000000000) (h : P ((List.range i.toNat).map fun i => .int (i : Nat))) : WpO (rng1U (.int i)) P := ⟨_, if_pos ⟨by omega, by omega⟩, h⟩
theorem wo_rng2 {P : List U → Prop} (c : -1000000000 < i ∧ i < 1000000000) (c2 : -1000000000 < j ∧ j < 1000000000) (h : P ((List.range (j - i).toNat).map fun k => .int (i + (k : Nat)))) : WpO (rng2U (.int i) (.int j)) P := ⟨_, if_pos ⟨⟨by omega, by omega⟩, ⟨by omega, by omega⟩⟩, h⟩
theorem atI_get {us : List U} {k : Nat} {u : U} (h : us[k]? = some u) : atI us (k : Int) = some u := by
  have hk : k < us.length := getElem?_lt h
  unfold atI ixN
  rw [if_pos (by omega), if_pos (by omega)]
  simpa using h
theorem wo_ix_t {u : U} (e : atI a i = some u) (h : P u) : WpO (ixU (.tup a) (.int i)) P := ⟨u, e, h⟩
theorem wo_ix_l {u : U} (e : atI a i = some u) (h : P u) : WpO (ixU (.lst a) (.int i)) P := ⟨u, e, h⟩
theorem wo_sl_t {l h' : Option Int} (h : P (.tup (EL.cut a l h'))) : WpO (slU (.tup a) l h') P := ⟨_, rfl, h⟩
theorem wo_sl_l {l h' : Option Int} (h : P (.lst (EL.cut a l h'))) : WpO (slU (.lst a) l h') P := ⟨_, rfl, h⟩
theorem wo_zip_tt {P : List U → Prop} (h : P (zipL a b)) : WpO (zipU (.tup a) (.tup b)) P := ⟨_, rfl, h⟩
theorem wo_app {h' : U → U} {u : U} {P : U × U → Prop} (l : a.length < sizeLine) (h : P (.non, h' (.lst (a ++ [u])))) : WpO (mutL appL (.lst a, h') [u]) P := ⟨_, by
  have e : appL a [u] = some (.non, a ++ [u]) := if_pos l
  show (appL a [u]).map _ = _
  rw [e]; rfl, h⟩
theorem wo_ext {h' : U → U} {P : U × U → Prop} (l : a.length + b.length ≤ sizeLine) (h : P (.non, h' (.lst (a ++ b)))) : WpO (mutL extL (.lst a, h') [.lst b]) P := ⟨_, by
  have e : extL a [.lst b] = some (.non, a ++ b) := if_pos l
  show (extL a [.lst b]).map _ = _
  rw [e]; rfl, h⟩
end
theorem wo_isObj {c m : Str} {u x : U} {P : U → Prop} (e : isObj c m u = some x) (h : P x) : WpO (isObj c m u) P := ⟨x, e, h⟩
theorem wo_fld {cs : List Str} {f : Str} {u x : U} {P : U → Prop} (e : fldU cs f u = some x) (h : P x) : WpO (fldU cs f u) P := ⟨x, e, h⟩
theorem if_nt {A B : Prop} (h : B) : IfP (!true) A B := h
theorem if_nf {A B : Prop} (h : A) : IfP (!false) A B := h
theorem lit_le {n : Nat} (h : Nat.ble n sizeLine = true) : n ≤ sizeLine := Nat.le_of_ble_eq_true h
section
variable {α S S' L : Type} {st : Sto} {Q : U → Sto → Prop} {QA : List U → Sto → Prop}
theorem vs_bind2 {Q : α → Sto → Prop} {w : M (U × U)} {k : U → U → M α} (h : Wp w st fun p s => Wp (k p.1 p.2) s Q) : Wp (.bind2 w k) st Q := .bind h
theorem vs_bindS {Q : α → Sto → Prop} {w : M (U × U)} {k : U → M α} (h : Wp w st fun p s => Wp (k p.2) s Q) : Wp (.bindS w k) st Q := .bind h
theorem vs_enum {w : M U} (h : Wp w st fun u s => WpO (enumU u) fun r => QA r s) : Wp (enumW w) st QA := .bind (h.mono fun _ _ h => vs_o h)
theorem vs_keys {w : M U} (h : Wp w st fun u s => WpO (keysL u) fun r => QA r s) : Wp (keysW w) st QA := .bind (h.mono fun _ _ h => vs_o h)
theorem vs_tupR {w : M (List U)} (h : Wp w st fun us s => us.length ≤ sizeLine ∧ Q (.tup us) s) : Wp (tupRW w) st Q := .bind (h.mono fun _ _ ⟨l, q⟩ => .o (if_pos l) q)
theorem vs_lstR {w : M (List U)} (h : Wp w st fun us s => us.length ≤ sizeLine ∧ Q (.lst us) s) : Wp (lstRW w) st Q := .bind (h.mono fun _ _ ⟨l, q⟩ => .o (if_pos l) q)
theorem vs_xitem {QX : U × U → Sto → Prop} {wd : M U} {wx : M (U × U)} (h : Wp wd st fun d s => Wp wx s fun p s => WpO (itemU d p.1) fun u => QX (u, p.2) s) : Wp (xitemM wd wx) st QX :=
  .bind (h.mono fun d _ h => .bind (h.mono fun p _ ⟨u, e, q⟩ => .o (by rw [e]; rfl) q))
theorem vs_itX {QX : List U × U → Sto → Prop} {w : M (U × U)} (h : Wp w st fun p s => WpO (itU p.1) fun us => QX (us, p.2) s) : Wp (itX w) st QX :=
  .bind (h.mono fun p _ ⟨u, e, q⟩ => .o (by rw [e]; rfl) q)
theorem vs_while {τ : Type} {e : τ → S} {c : S → M Bool} {b : S → M (Out S S)} {Q : Out S L → Sto → Prop} (I : τ → Sto → Prop) (μ : τ → Nat)
    (hs : ∀ t st, I t st → Wp (c (e t)) st fun k st' => IfP k (Wp (b (e t)) st' (ForK (fun s' st'' => ∃ t', s' = e t' ∧ I t' st'' ∧ μ t' < μ t) Q)) (Q (.nx (e t)) st')) {t0 : τ} {s0 : S} (he : s0 = e t0) (h0 : I t0 st) : Wp (whileO c b s0) st Q := by
  subst he
  refine Wp.while (fun n s st => ∃ t, s = e t ∧ n = μ t ∧ I t st) ?_ (n := μ t0) ⟨t0, rfl, rfl, h0⟩
  rintro n _ st ⟨t, rfl, rfl, hi⟩
  refine (hs t st hi).mono fun k st' q => ?_
  cases k with
  | false => exact q
  | true =>
    refine Wp.mono (show Wp (b (e t)) st' _ from q) fun o st'' q => ?_
    cases o with
    | nx s' => obtain ⟨t', rfl, h1, h2⟩ := q; exact ⟨_, h2, t', rfl, rfl, h1⟩
    | ct s' => obtain ⟨t', rfl, h1, h2⟩ := q; exact ⟨_, h2, t', rfl, rfl, h1⟩
    | bk s' => exact q
    | rt u => exact q
end
section
variable {P : U → Prop} {i j : Int} {a b : List U} {x y : Str}
theorem wo_ix0 {a : Int} {r : List Int} (h : P (.int a)) : WpO (ixU (tupI (a :: r)) (.int 0)) P := ⟨.int a, atI_get (us := (a :: r).map U.int) (k := 0) rfl, h⟩
theorem wo_ix1 {a b : Int} {r : List Int} (h : P (.int b)) : WpO (ixU (tupI (a :: b :: r)) (.int 1)) P := ⟨.int b, atI_get (us := (a :: b :: r).map U.int) (k := 1) rfl, h⟩
theorem wo_ix2 {a b c : Int} {r : List Int} (h : P (.int c)) : WpO (ixU (tupI (a :: b :: c :: r)) (.int 2)) P := ⟨.int c, atI_get (us := (a :: b :: c :: r).map U.int) (k := 2) rfl, h⟩
theorem wo_enum_t {P : List U → Prop} (h : P (enumL a)) : WpO (enumU (.tup a)) P := ⟨_, rfl, h⟩
theorem wo_enum_l {P : List U → Prop} (h : P (enumL a)) : WpO (enumU (.lst a)) P := ⟨_, rfl, h⟩
theorem fVs_ints : ∀ xs : List Int, fVs (xs.map .int) = some (xs.map V.int)
  | [] => rfl
  | x :: xs => by rw [List.map_cons, fVs, fVs_ints xs]; rfl
theorem inV_ints (i : Int) (xs : List Int) : inV (.int i) (xs.map V.int) = decide (i ∈ xs) := by
  unfold inV
  rw [List.any_map, Bool.eq_iff_iff, List.any_eq_true, decide_eq_true_eq]
  constructor
  · rintro ⟨z, m, e⟩
    have : z = i := by simpa [eqV] using e
    exact this ▸ m
  · intro m
    exact ⟨i, m, by simp [eqV]⟩
theorem inB_t (i : Int) (xs : List Int) : inB (.int i) (.tup (xs.map .int)) = some (decide (i ∈ xs)) := by
  show (fVs (xs.map .int)).map (fun vs => inV (.int i) vs) = _
  rw [fVs_ints, Option.map_some, inV_ints]
theorem inB_l (i : Int) (xs : List Int) : inB (.int i) (.lst (xs.map .int)) = some (decide (i ∈ xs)) := by
  show (fVs (xs.map .int)).map (fun vs => inV (.int i) vs) = _
  rw [fVs_ints, Option.map_some, inV_ints]
theorem wo_in_t {xs : List Int} (h : P (.bl (decide (i ∈ xs)))) : WpO (inSU (.int i) (.tup (xs.map .int))) P := ⟨_, by unfold inSU; rw [inB_t]; rfl, h⟩
theorem wo_in_l {xs : List Int} (h : P (.bl (decide (i ∈ xs)))) : WpO (inSU (.int i) (.lst (xs.map .int))) P := ⟨_, by unfold inSU; rw [inB_l]; rfl, h⟩
theorem wo_nin_t {xs : List Int} (h : P (.bl (!decide (i ∈ xs)))) : WpO (notInSU (.int i) (.tup (xs.map .int))) P := ⟨_, by unfold notInSU; rw [inB_t]; rfl, h⟩
theorem wo_nin_l {xs : List Int} (h : P (.bl (!decide (i ∈ xs)))) : WpO (notInSU (.int i) (.lst (xs.map .int))) P := ⟨_, by unfold notInSU; rw [inB_l]; rfl, h⟩
theorem eq_bl (s t : Bool) : eqU (.bl s) (.bl t) = some (.bl (s == t)) := by cases s <;> cases t <;> rfl
theorem ne_bl (s t : Bool) : neU (.bl s) (.bl t) = some (.bl (!(s == t))) := by cases s <;> cases t <;> rfl
theorem wo_eq_b {s t : Bool} (h : P (.bl (s == t))) : WpO (eqU (.bl s) (.bl t)) P := ⟨_, eq_bl s t, h⟩
theorem wo_ne_b {s t : Bool} (h : P (.bl (!(s == t)))) : WpO (neU (.bl s) (.bl t)) P := ⟨_, ne_bl s t, h⟩
end
section
variable {ν : Type} {vf : ν → U}
def keyI (x : List Int) : List Key := x.map Sum.inl
def dTU (vf : ν → U) (D : List (List Int × ν)) : U := .dcT (D.map fun p => keyI p.1) (D.map fun p => vf p.2)
theorem keysU_ints : ∀ x : List Int, keysU (x.map .int) = some (keyI x)
  | [] => rfl
  | i :: x => by rw [List.map_cons, keysU, keysU_ints x]; rfl
theorem tkey_tupI (x : List Int) : tkeyU (tupI x) = some (keyI x) := keysU_ints x
theorem keyI_inj : ∀ {x y : List Int}, keyI x = keyI y → x = y
  | [], [], _ => rfl
  | [], _ :: _, h => by simp [keyI] at h
  | _ :: _, [], h => by simp [keyI] at h
  | i :: x, j :: y, h => by
    have h : i = j ∧ x.map Sum.inl = (y.map Sum.inl : List Key) := by simpa [keyI] using h
    rw [h.1, keyI_inj (x := x) (y := y) h.2]
theorem idx_dT (x : List Int) : ∀ D : List (List Int × ν), match D.lookup x with
    | some v => ∃ j, idxK (keyI x) (D.map fun p => keyI p.1) = some j ∧ (D.map fun p => vf p.2)[j]? = some (vf v)
    | none => idxK (keyI x) (D.map fun p => keyI p.1) = none
  | [] => rfl
  | (k, v) :: D => by
    have ih := idx_dT x D
    rw [List.lookup_cons]
    by_cases h : x = k
    · subst h
      rw [show (x == x) = true from by simp]
      exact ⟨0, by rw [List.map_cons, idxK, if_pos rfl], rfl⟩
    · rw [show (x == k) = false from by simpa using h]
      have hk : ¬ keyI k = keyI x := fun e => h (keyI_inj e).symm
      cases e : D.lookup x with
      | none =>
        rw [e] at ih
        simp only at ih ⊢
        rw [List.map_cons, idxK, if_neg hk, ih]; rfl
      | some w =>
        rw [e] at ih
        simp only at ih ⊢
        obtain ⟨j, h1, h2⟩ := ih
        exact ⟨j + 1, by rw [List.map_cons, idxK, if_neg hk, h1]; rfl, by simpa using h2⟩
theorem getU_dT (x : List Int) (D : List (List Int × ν)) : getU (dTU vf D) (tupI x) = some ((D.lookup x).map vf) := by
  have h := idx_dT (vf := vf) x D
  unfold dTU
  simp only [getU, tkey_tupI]
  cases e : D.lookup x with
  | none => rw [e] at h; simp only at h; rw [h]; rfl
  | some v =>
    rw [e] at h
    obtain ⟨j, h1, h2⟩ := h
    simp only [h1, h2]
    rfl
theorem wo_dTin {x : List Int} {D : List (List Int × ν)} {P : U → Prop} (h : P (.bl (D.lookup x).isSome)) : WpO (inU (tupI x) (dTU vf D)) P := ⟨_, by unfold inU; rw [getU_dT]; simp, h⟩
theorem wo_dTnin {x : List Int} {D : List (List Int × ν)} {P : U → Prop} (h : P (.bl (!(D.lookup x).isSome))) : WpO (notInU (tupI x) (dTU vf D)) P := ⟨_, by unfold notInU; rw [getU_dT]; simp, h⟩
theorem wo_dTkeys {D : List (List Int × ν)} {P : List U → Prop} (h : P ((D.map Prod.fst).map tupI)) : WpO (keysL (dTU vf D)) P := ⟨_, by
  show some ((D.map fun p => keyI p.1).map fun k => U.tup (k.map kU)) = _
  rw [List.map_map, List.map_map]
  congr 1
  refine List.map_congr_left fun p _ => ?_
  simp only [Function.comp_apply, tupI, keyI, List.map_map]
  congr 1, h⟩
end
theorem nodup_len : ∀ (n : Nat) (l : List Int), l.Nodup → (∀ x ∈ l, 0 ≤ x ∧ x < (n : Int)) → l.length ≤ n
  | 0, [], _, _ => Nat.le_refl _
  | 0, x :: l, _, h => by have := h x List.mem_cons_self; omega
  | n + 1, l, nd, h => by
    have hs : (l.erase (n : Int)).length ≤ n := nodup_len n _ (nd.erase _) fun x m => by
      have h1 := h x (List.mem_of_mem_erase m)
      have h2 : x ≠ (n : Int) := fun e => by subst e; exact nd.not_mem_erase m
      omega
    have : l.length ≤ (l.erase (n : Int)).length + 1 := by
      rw [List.length_erase]
      split <;> omega
    omega
section
variable {st : Sto} {Q : U → Sto → Prop}
theorem vs_callK {n m : Nat} {f : List U → M U} {wa wk : M (List U)} (h : Wp wa st fun us s => Wp wk s fun ks s => (us.length = n ∧ ks.length = m) ∧ Wp (f (us ++ ks)) s Q) : Wp (callKM n m f wa wk) st Q :=
  .bind (h.mono fun us s h => .bind (h.mono fun ks s ⟨l, q⟩ => .bind (.o (if_pos l) q)))
end
section
variable {st : Sto} {Q : U → Sto → Prop}
end
section
variable {st : Sto} {Q : U → Sto → Prop}
end
section
variable {τ : Type} [DecidableEq τ] (f : τ → U)
structure KeyF : Prop where
  inj : ∀ x y, nkU (f x) = nkU (f y) → x = y
  ok : ∀ x, ∃ k, nk8 (f x) = some k
  tup : ∀ x, ∃ us, f x = .tup us
end
section
variable {τ : Type} [DecidableEq τ] {f : τ → U}
def dN (f : τ → U) (D : List (τ × U)) : U := .dcN (D.map fun p => f p.1) (D.map (·.2))
end
section
variable {α S L : Type} {st : Sto} {QA : List U → Sto → Prop}
theorem vs_keysN {w : M U} (h : Wp w st fun u s => WpO (keysN u) fun r => QA r s) : Wp (keysNW w) st QA := .bind (h.mono fun _ _ h => vs_o h)
theorem vs_un22 {Q : α → Sto → Prop} {a b c d : U} {k : U → U → U → U → M α} (h : Wp (k a b c d) st Q) : Wp (un22 (.tup [.tup [a, b], .tup [c, d]]) k) st Q := h
theorem vs_un21 {Q : α → Sto → Prop} {a b c : U} {k : U → U → U → M α} (h : Wp (k a b c) st Q) : Wp (un21 (.tup [.tup [a, b], c]) k) st Q := h
end
end UX
namespace UX
open PySem PySem.Spec PyProof.Rows L2
section
variable {α S S1 L : Type} {st : Sto} {c : Str} {Q : U → Sto → Prop}
theorem wp_fnX {w : M (Out Unit Unit)} (hn : ∀ u s, Q u s → unEx u = none) (h : Wp (fnM w) st Q) : Wp (fnX w) st Q := by
  obtain ⟨u, s, e, q⟩ := h
  have hu := hn u s q
  refine ⟨u, s, ?_, q⟩
  obtain ⟨o, s1, e1, e2⟩ := M.bind_inv e
  unfold fnX
  rw [e1]
  cases o with
  | rt v =>
    cases e2
    show (match unEx u with | some c => _ | none => _) = _
    rw [hu]
  | nx _ => cases e2; rfl
  | bk _ => cases e2
  | ct _ => cases e2
theorem vs_exB {w : M α} {k : α → M (Out S L)} {Q : Out S L → Sto → Prop} (h : Wp w st fun a s => Wp (k a) s Q) : Wp (exB w k) st Q := by
  obtain ⟨a, s, e, o, s2, e2, q⟩ := h
  exact ⟨o, s2, by unfold exB; rw [e]; exact e2, q⟩
theorem vs_callX {f : List U → M U} {wa : M (List U)} (h : Wp wa st fun us s => Wp (f us) s Q) : Wp (callX f wa) st Q := by
  obtain ⟨us, s, e, u, s2, e2, q⟩ := h
  exact ⟨u, s2, by unfold callX; rw [e]; exact e2, q⟩
theorem vs_tryK {tab : Str → Option Bool} {wb : M (Out S L)} {sx : U → S} {Q : Out S L → Sto → Prop} (h : Wp wb st fun o s => (∀ u, o = .rt u → unEx u = none) ∧ Q o s) : Wp (tryK tab wb sx) st Q := .bind (h.mono fun o s q => by
  obtain ⟨q1, q2⟩ := q
  cases o with
  | rt u =>
    have e := q1 u rfl
    show Wp (match unEx u with | some c => _ | none => M.ret (Out.rt u)) s Q
    rw [e]
    exact .ret q2
  | nx _ => exact .ret q2
  | bk _ => exact .ret q2
  | ct _ => exact .ret q2)
theorem vs_tryN {tab : Str → Option Bool} {wb : M (Out S L)} {sx : U → S} {Q : Out S L → Sto → Prop} (h : Wp wb st fun o s => ∃ a, o = .nx a ∧ Q (.nx a) s) : Wp (tryK tab wb sx) st Q := vs_tryK (h.mono fun o s q => by
  obtain ⟨a, rfl, q⟩ := q
  exact ⟨(fun u e => nomatch e), q⟩)
def WrE (w : M α) (st : Sto) (e : U) : Prop := w st = some (.er e, st)
theorem wrE_fnX {e : U} {w : M (Out Unit Unit)} (he : unEx (mkEx e) = some e) (h : Wp w st fun o s => o = .rt (mkEx e) ∧ s = st) : WrE (fnX w) st e := by
  obtain ⟨o, s, z, rfl, rfl⟩ := h
  unfold WrE fnX
  rw [z]
  show (match unEx (mkEx e) with | some c => _ | none => _) = _
  rw [he]
theorem wrE_exB {e : U} {w : M α} {k : α → M (Out S L)} (h : WrE w st e) : Wp (exB w k) st fun o s => o = .rt (mkEx e) ∧ s = st := ⟨_, _, by unfold exB; rw [show w st = _ from h], rfl, rfl⟩
theorem wrE_callX {e : U} {f : List U → M U} {wa : M (List U)} (h : Wp wa st fun us s => s = st ∧ WrE (f us) s e) : WrE (callX f wa) st e := by
  obtain ⟨us, s, z, rfl, q⟩ := h
  unfold WrE callX
  rw [z]
  exact q
theorem vs_tryF {e : U} {tab : Str → Option Bool} {wb : M (Out S L)} {sx : U → S} {Q : Out S L → Sto → Prop} (he : unEx (mkEx e) = some e) (h : Wp wb st fun o s => o = .rt (mkEx e) ∧ s = st) (ht : tab (erc e) = some true) (q : Q (.nx (sx (kpt e))) st) : Wp (tryK tab wb sx) st Q := .bind (h.mono fun o s z => by
  obtain ⟨rfl, rfl⟩ := z
  show Wp (match unEx (mkEx e) with | some c => (match tab (erc c) with | some true => M.ret (Out.nx (sx (kpt c))) | _ => M.fail) | none => M.ret (Out.rt (mkEx e))) s Q
  rw [he]
  show Wp (match tab (erc e) with | some true => M.ret (Out.nx (sx (kpt e))) | _ => M.fail) s Q
  rw [ht]
  exact .ret q)
end
mutual
def dataU : U → Bool
  | .non => true
  | .bl _ => true
  | .int _ => true
  | .str _ => true
  | .tup us => dataA us
  | .lst us => dataA us
  | .dct _ us => dataA us
  | _ => false
def dataA : List U → Bool
  | [] => true
  | u :: us => dataU u && dataA us
end
structure Tg (w k : Nat) (u : U) : Prop where
  dt : dataU u = true
  ex : ∃ d, pdD u = some d ∧ d.showable = true ∧ d.depth ≤ k ∧ d.leavesShort 13 = true ∧ d.weight ≤ w
structure TgA (w k : Nat) (us : List U) : Prop where
  dt : dataA us = true
  ex : ∃ ds, pdsD us = some ds ∧ PyData.showableAll ds = true ∧ PyData.depthAll ds ≤ k ∧ PyData.leavesShortAll 13 ds = true ∧ PyData.weightAll ds ≤ us.length * (w + 1)
section
variable {w k : Nat} {u : U} {us : List U}
theorem Tg.mono {w' k' : Nat} (h : Tg w k u) (hw : w ≤ w') (hk : k ≤ k') : Tg w' k' u := by
  obtain ⟨d, h1, h2, h3, h4, h5⟩ := h.ex
  exact ⟨h.dt, d, h1, h2, by omega, h4, by omega⟩
theorem tgA_of : ∀ {us : List U}, (∀ x ∈ us, Tg w k x) → TgA w k us
  | [], _ => ⟨rfl, [], rfl, rfl, Nat.zero_le _, rfl, Nat.zero_le _⟩
  | u :: us, h => by
    obtain ⟨d, h1, h2, h3, h4, h5⟩ := (h u List.mem_cons_self).ex
    have hr := tgA_of (us := us) fun x m => h x (List.mem_cons_of_mem _ m)
    obtain ⟨ds, g1, g2, g3, g4, g5⟩ := hr.ex
    refine ⟨by simp [dataA, (h u List.mem_cons_self).dt, hr.dt], d :: ds, by rw [pdsD, h1, g1], by simp [PyData.showableAll, h2, g2], ?_, by simp [PyData.leavesShortAll, h4, g4], ?_⟩
    · simp only [PyData.depthAll]; omega
    · simp only [PyData.weightAll, List.length_cons, Nat.succ_mul]; omega
theorem tg_tup (h : ∀ x ∈ us, Tg w k x) : Tg (us.length * (w + 1)) (k + 1) (.tup us) := by
  obtain ⟨hd, ds, g1, g2, g3, g4, g5⟩ := tgA_of h
  exact ⟨hd, .tuple ds, by show (pdsD us).map PyData.tuple = _; rw [g1]; rfl, g2, by simp only [PyData.depth]; omega, g4, g5⟩
theorem tg_non : Tg w k .non := ⟨rfl, .none, rfl, rfl, Nat.zero_le _, rfl, Nat.zero_le _⟩
theorem tg_int {i : Int} (h : i.natAbs < 1000000000000) (hw : 41 ≤ w) : Tg w k (.int i) := by
  have hl := log_small h
  refine ⟨rfl, .int i, rfl, ?_, Nat.zero_le _, ?_, ?_⟩
  · simp only [PyData.showable]; exact decide_eq_true (by omega)
  · simp only [PyData.leavesShort]; exact decide_eq_true (PyData.shown_int_le h)
  · simp only [PyData.weight]; split <;> omega
def okS (x : Str) : Prop := ∀ c ∈ x.cps.toList, c < 16 ^ 8
theorem tg_str {x : Str} (h : okS x) (hw : x.cps.size ≤ w) : Tg w k (.str x) :=
  ⟨rfl, .str x, rfl, rfl, Nat.zero_le _, by simp only [PyData.leavesShort]; exact List.all_eq_true.mpr fun c m => decide_eq_true (h c m), hw⟩
theorem tgA_mem : ∀ {us : List U} {ds : List PyData} {w k : Nat}, dataA us = true → pdsD us = some ds → PyData.showableAll ds = true → PyData.depthAll ds ≤ k → PyData.leavesShortAll 13 ds = true → PyData.weightAll ds ≤ w → ∀ x ∈ us, Tg w k x
  | [], _, _, _, _, _, _, _, _, _, x, m => nomatch m
  | u :: us, ds, w, k, hd, h1, h2, h3, h4, h5, x, m => by
    have hd : dataU u = true ∧ dataA us = true := by simpa [dataA] using hd
    rw [pdsD] at h1
    cases e1 : pdD u with
    | none => rw [e1] at h1; cases h1
    | some d =>
      cases e2 : pdsD us with
      | none => rw [e1, e2] at h1; cases h1
      | some ds' =>
        rw [e1, e2] at h1
        cases h1
        have h2 : d.showable = true ∧ PyData.showableAll ds' = true := by simpa [PyData.showableAll] using h2
        have h4 : d.leavesShort 13 = true ∧ PyData.leavesShortAll 13 ds' = true := by simpa [PyData.leavesShortAll] using h4
        simp only [PyData.depthAll] at h3
        simp only [PyData.weightAll] at h5
        rcases List.mem_cons.mp m with rfl | m
        · exact ⟨hd.1, d, e1, h2.1, by omega, h4.1, by omega⟩
        · exact tgA_mem hd.2 e2 h2.2 (by omega) h4.2 (by omega) x m
theorem Tg.mem (h : Tg w k (.tup us)) : ∀ x ∈ us, Tg w k x := by
  obtain ⟨hd, d, h1, h2, h3, h4, h5⟩ := h
  obtain ⟨ds, e1, rfl⟩ := Option.map_eq_some_iff.mp (show (pdsD us).map PyData.tuple = some d from h1)
  simp only [PyData.depth] at h3
  exact tgA_mem hd e1 h2 (by omega) h4 h5
theorem Tg.len (h : Tg w k (.tup us)) : us.length ≤ w := by
  obtain ⟨hd, d, h1, h2, h3, h4, h5⟩ := h
  obtain ⟨ds, e1, rfl⟩ := Option.map_eq_some_iff.mp (show (pdsD us).map PyData.tuple = some d from h1)
  have key : ∀ {us : List U} {ds : List PyData}, pdsD us = some ds → us.length ≤ PyData.weightAll ds := by
    intro us
    induction us with
    | nil => intro ds _; exact Nat.zero_le _
    | cons u us ih =>
      intro ds e
      rw [pdsD] at e
      cases e1 : pdD u with
      | none => rw [e1] at e; cases e
      | some d =>
        cases e2 : pdsD us with
        | none => rw [e1, e2] at e; cases e
        | some ds' =>
          rw [e1, e2] at e
          cases e
          have := ih e2
          simp only [PyData.weightAll, List.length_cons]
          omega
  exact Nat.le_trans (key e1) h5
theorem Tg.repr (h : Tg w k u) (hw : w ≤ 1000000) (hk : k ≤ 60) : ∃ x, reprE u = some (.str x) := by
  obtain ⟨hd, d, h1, h2, h3, h4, h5⟩ := h
  have hs := PyData.shown_fits (B := 13) (by decide) (by decide) h4 (by omega)
  refine ⟨d.shown, ?_⟩
  unfold reprE
  rw [h1]
  exact if_pos (by simp [shD, h2, hs]; omega)
mutual
/-- numbers, truths, None, and tuples of such -/
def plainU : U → Bool
  | .non => true
  | .bl _ => true
  | .int _ => true
  | .tup us => plainA us
  | _ => false
def plainA : List U → Bool
  | [] => true
  | u :: us => plainU u && plainA us
end
theorem okS_app {a b : Str} (ha : okS a) (hb : okS b) : okS (a ++ b) := fun c m => by
  have m : c ∈ (a.cps ++ b.cps).toList := m
  rw [Array.toList_append] at m
  exact (List.mem_append.mp m).elim (ha c) (hb c)
theorem okS_of (s : String) : okS (Str.ofString s) := fun c m => by
  rw [Str.ofString_eq_toList] at m
  simp only at m
  obtain ⟨x, _, rfl⟩ := List.mem_map.mp m
  have := x.valid
  have h : x.toNat < 1114112 := by
    have h2 := x.val.toNat_lt
    rcases this with h | ⟨_, h⟩
    · show x.val.toNat < _
      have : x.val.toNat < 0xd800 := h
      omega
    · show x.val.toNat < _
      have : x.val.toNat < 0x110000 := h
      omega
  exact Nat.lt_trans h (by decide)
theorem okS_join {s : Str} (hs : okS s) : ∀ {ts : List Str}, (∀ t ∈ ts, okS t) → okS (Str.join s ts)
  | [], _ => fun c m => nomatch m
  | [t], h => h t (by simp)
  | t :: t2 :: ts, h => by
    have := okS_join hs (ts := t2 :: ts) fun x m => h x (List.mem_cons_of_mem _ m)
    exact okS_app (okS_app (h t List.mem_cons_self) hs) this
mutual
theorem okS_shown : ∀ (u : U) (d : PyData), plainU u = true → pdD u = some d → okS d.shown
  | .non, d, _, e => by cases e; exact okS_of _
  | .bl b, d, _, e => by cases e; cases b <;> exact okS_of _
  | .int i, d, _, e => by cases e; exact okS_of _
  | .tup us, d, h, e => by
    obtain ⟨ds, e1, rfl⟩ := Option.map_eq_some_iff.mp (show (pdsD us).map PyData.tuple = some d from e)
    have := okS_shownAll us ds h e1
    show okS (tupleText (PyData.shownAll ds))
    unfold tupleText
    refine okS_app (okS_app (okS_of _) (okS_join (okS_of _) this)) ?_
    split <;> exact okS_of _
  | .str _, _, h, _ | .lst _, _, h, _ | .dct _ _, _, h, _ | .dcT _ _, _, h, _ | .dcN _ _, _, h, _ | .obj _ _ _, _, h, _ | .top _, _, h, _ | .frl _, _, h, _ | .loc _, _, h, _ | .exc _, _, h, _ | .exo _ _ _, _, h, _ => by simp [plainU] at h
theorem okS_shownAll : ∀ (us : List U) (ds : List PyData), plainA us = true → pdsD us = some ds → ∀ t ∈ PyData.shownAll ds, okS t
  | [], _, _, e, t, m => by cases e; cases m
  | u :: us, ds, h, e, t, m => by
    have h : plainU u = true ∧ plainA us = true := by simpa [plainA] using h
    rw [pdsD] at e
    cases e1 : pdD u with
    | none => rw [e1] at e; cases e
    | some d =>
      cases e2 : pdsD us with
      | none => rw [e1, e2] at e; cases e
      | some ds' =>
        rw [e1, e2] at e
        cases e
        rcases List.mem_cons.mp m with rfl | m
        · exact okS_shown u d h.1 e1
        · exact okS_shownAll us ds' h.2 e2 t m
end
theorem Tg.str (h : Tg w k u) (hp : plainU u = true) (hw : w ≤ 60000) (hk : k ≤ 60) : ∃ x, strE u = some (.str x) ∧ okS x ∧ x.cps.size ≤ 15 * w + 20 := by
  obtain ⟨hd, d, h1, h2, h3, h4, h5⟩ := h
  have hs := PyData.shown_fits (B := 13) (by decide) (by decide) h4 (by omega)
  have hl := PyData.shown_le 13 (by decide) d h4
  have e : strD d = d.shown := by
    cases d with
    | str x =>
      cases u <;> simp [plainU] at hp <;> simp [pdD] at h1
    | _ => rfl
  refine ⟨d.shown, ?_, okS_shown u d hp h1, ?_⟩
  · unfold strE
    rw [h1]
    refine Eq.trans (if_pos ?_) (by rw [e])
    unfold shS
    rw [h2, decide_eq_true (show d.depth ≤ 60 by omega), decide_eq_true hs]
    cases d with
    | int i => simpa [PyData.showable] using h2
    | _ => rfl
  · show d.shown.length ≤ _
    omega
end
structure TgS (w k : Nat) (us : List U) : Prop where
  dt : dataA us = true
  ex : ∃ ds, pdsD us = some ds ∧ PyData.showableAll ds = true ∧ PyData.depthAll ds ≤ k ∧ PyData.leavesShortAll 13 ds = true ∧ PyData.weightAll ds ≤ w
section
variable {w k w' k' : Nat} {u : U} {us vs : List U}
theorem TgS.nil : TgS w k [] := ⟨rfl, [], rfl, rfl, Nat.zero_le _, rfl, Nat.zero_le _⟩
theorem TgS.mono (h : TgS w k us) (hw : w ≤ w') (hk : k ≤ k') : TgS w' k' us := by
  obtain ⟨d, h1, h2, h3, h4, h5⟩ := h.ex
  exact ⟨h.dt, d, h1, h2, by omega, h4, by omega⟩
theorem TgS.cons (h : Tg w k u) (hs : TgS w' k us) : TgS (w + 1 + w') k (u :: us) := by
  obtain ⟨d, h1, h2, h3, h4, h5⟩ := h.ex
  obtain ⟨ds, g1, g2, g3, g4, g5⟩ := hs.ex
  refine ⟨by simp [dataA, h.dt, hs.dt], d :: ds, by rw [pdsD, h1, g1], by simp [PyData.showableAll, h2, g2], ?_, by simp [PyData.leavesShortAll, h4, g4], ?_⟩
  · simp only [PyData.depthAll]; omega
  · simp only [PyData.weightAll]; omega
theorem TgS.inv (h : TgS w k (u :: us)) : ∃ w1 w2, Tg w1 k u ∧ TgS w2 k us ∧ w1 + 1 + w2 ≤ w := by
  obtain ⟨hd, ds, h1, h2, h3, h4, h5⟩ := h
  have hd : dataU u = true ∧ dataA us = true := by simpa [dataA] using hd
  rw [pdsD] at h1
  cases e1 : pdD u with
  | none => rw [e1] at h1; cases h1
  | some d =>
    cases e2 : pdsD us with
    | none => rw [e1, e2] at h1; cases h1
    | some ds' =>
      rw [e1, e2] at h1
      cases h1
      have h2 : d.showable = true ∧ PyData.showableAll ds' = true := by simpa [PyData.showableAll] using h2
      have h4 : d.leavesShort 13 = true ∧ PyData.leavesShortAll 13 ds' = true := by simpa [PyData.leavesShortAll] using h4
      simp only [PyData.depthAll] at h3
      simp only [PyData.weightAll] at h5
      exact ⟨d.weight, PyData.weightAll ds', ⟨hd.1, d, e1, h2.1, by omega, h4.1, Nat.le_refl _⟩, ⟨hd.2, ds', e2, h2.2, by omega, h4.2, Nat.le_refl _⟩, by omega⟩
theorem TgS.one (h : Tg w k u) : TgS (w + 1) k [u] := TgS.cons h (w' := 0) .nil
theorem TgS.app : ∀ {us : List U} {w : Nat}, TgS w k us → TgS w' k vs → TgS (w + w') k (us ++ vs)
  | [], w, _, h' => h'.mono (by omega) (Nat.le_refl _)
  | u :: us, w, h, h' => by
    obtain ⟨w1, w2, a, b, c⟩ := h.inv
    exact (TgS.cons a (b.app h')).mono (by omega) (Nat.le_refl _)
theorem TgS.drop : ∀ {us : List U} {w : Nat} (n : Nat), TgS w k us → TgS w k (us.drop n)
  | us, w, 0, h => h
  | [], w, n + 1, h => h
  | u :: us, w, n + 1, h => by
    obtain ⟨w1, w2, a, b, c⟩ := h.inv
    exact (b.drop n).mono (by omega) (Nat.le_refl _)
theorem TgS.take : ∀ {us : List U} {w : Nat} (n : Nat), TgS w k us → TgS w k (us.take n)
  | us, w, 0, h => .nil
  | [], w, n + 1, h => h
  | u :: us, w, n + 1, h => by
    obtain ⟨w1, w2, a, b, c⟩ := h.inv
    exact (TgS.cons a (b.take n)).mono (by omega) (Nat.le_refl _)
theorem TgS.split : ∀ {us : List U} {w : Nat} (n : Nat), TgS w k us → ∃ w1 w2, TgS w1 k (us.take n) ∧ TgS w2 k (us.drop n) ∧ w1 + w2 ≤ w
  | us, w, 0, h => ⟨0, w, .nil, h, by omega⟩
  | [], w, n + 1, h => ⟨0, w, .nil, h, by omega⟩
  | u :: us, w, n + 1, h => by
    obtain ⟨w1, w2, a, b, c⟩ := h.inv
    obtain ⟨w3, w4, d, e, f⟩ := b.split n
    exact ⟨w1 + 1 + w3, w4, TgS.cons a d, e, by omega⟩
theorem TgS.cut (h : TgS w k us) (a b : Option Int) : TgS w k (EL.cut us a b) := (h.drop _).take _
theorem TgS.mem : ∀ {us : List U} {w : Nat}, TgS w k us → ∀ x ∈ us, ∃ w1, Tg w1 k x ∧ w1 + 1 ≤ w
  | [], _, _, x, m => nomatch m
  | u :: us, w, h, x, m => by
    obtain ⟨w1, w2, a, b, c⟩ := h.inv
    rcases List.mem_cons.mp m with rfl | m
    · exact ⟨w1, a, by omega⟩
    · obtain ⟨w3, d, e⟩ := b.mem x m
      exact ⟨w3, d, by omega⟩
theorem TgS.len : ∀ {us : List U} {w : Nat}, TgS w k us → us.length ≤ w
  | [], _, _ => Nat.zero_le _
  | u :: us, w, h => by
    obtain ⟨w1, w2, a, b, c⟩ := h.inv
    have := b.len
    simp only [List.length_cons]; omega
theorem TgS.rev : ∀ {us : List U} {w : Nat}, TgS w k us → TgS w k us.reverse
  | [], _, h => h
  | u :: us, w, h => by
    obtain ⟨w1, w2, a, b, c⟩ := h.inv
    rw [List.reverse_cons]
    exact (b.rev.app (TgS.one a)).mono (by omega) (Nat.le_refl _)
theorem TgS.tup (h : TgS w k us) : Tg w (k + 1) (.tup us) := by
  obtain ⟨hd, ds, g1, g2, g3, g4, g5⟩ := h
  exact ⟨hd, .tuple ds, by show (pdsD us).map PyData.tuple = _; rw [g1]; rfl, g2, by simp only [PyData.depth]; omega, g4, g5⟩
theorem TgS.lst (h : TgS w k us) : Tg w (k + 1) (.lst us) := by
  obtain ⟨hd, ds, g1, g2, g3, g4, g5⟩ := h
  exact ⟨hd, .list ds, by show (pdsD us).map PyData.list = _; rw [g1]; rfl, g2, by simp only [PyData.depth]; omega, g4, g5⟩
end
end UX
namespace EK
open PySem PySem.Spec PyProof.Rows L2 UX UY
open EL (op_addK op_mulK op_eqK op_neK op_ltK sl_seqK ix_seqK op_inK op_notInK call_lenK call_tupleK call_listK call_isiK call_reprK cr_anyK cr_allK pi_seqK pi_listK pe_callG FnG rm66 op_inDK op_notInDK)
abbrev s__law_hand : Stmt := top 37
abbrev N__law_hand : List Str := ["_law_script", "_law_seed", "_law_cell"]
theorem sc__law_hand : FnScope N__law_hand ["_law_script"] (defScope s__law_hand) := ⟨rfl, rfl, rfl, by decide +kernel, rfl, by decide +kernel, by decide +kernel⟩
abbrev s__law_game_text : Stmt := top 41
abbrev N__law_game_text : List Str := ["_law_things", "_law_owners", "_law_ranks", "_law_ways", "_law_rows", "_law_owner", "_law_rank", "_law_place", "_law_end"]
theorem sc__law_game_text : FnScope N__law_game_text ["_law_things"] (defScope s__law_game_text) := ⟨rfl, rfl, rfl, by decide +kernel, rfl, by decide +kernel, by decide +kernel⟩
abbrev s__law_pick : Stmt := top 38
abbrev N__law_pick : List Str := ["_law_hand_here", "_law_many", "_law_digit", "_law_mixed"]
theorem sc__law_pick : FnScope N__law_pick ["_law_hand_here", "_law_many"] (defScope s__law_pick) := ⟨rfl, rfl, rfl, by decide +kernel, rfl, by decide +kernel, by decide +kernel⟩
abbrev s__law_game : Stmt := top 40
abbrev N__law_game : List Str := ["_law_hand_here", "_law_upmost", "_law_many", "_law_owners", "_law_ranks", "_law_ways", "_law_place", "_law_some", "_law_end"]
theorem sc__law_game : FnScope N__law_game ["_law_hand_here", "_law_upmost"] (defScope s__law_game) := ⟨rfl, rfl, rfl, by decide +kernel, rfl, by decide +kernel, by decide +kernel⟩
abbrev s__law_of : Stmt := top 39
abbrev N__law_of : List Str := ["_law_hand_here", "_law_some"]
theorem sc__law_of : FnScope N__law_of ["_law_hand_here", "_law_some"] (defScope s__law_of) := ⟨rfl, rfl, rfl, by decide +kernel, rfl, by decide +kernel, by decide +kernel⟩
abbrev s__law_sign_changed : Stmt := top 43
abbrev N__law_sign_changed : List Str := ["_law_hand_here", "_law_text", "_law_at", "_law_way", "_law_sign"]
theorem sc__law_sign_changed : FnScope N__law_sign_changed ["_law_hand_here", "_law_text"] (defScope s__law_sign_changed) := ⟨rfl, rfl, rfl, by decide +kernel, rfl, by decide +kernel, by decide +kernel⟩
abbrev s__law_words_changed : Stmt := top 42
abbrev N__law_words_changed : List Str := ["_law_hand_here", "_law_words", "_law_some", "_law_at", "_law_way", "_law_new"]
theorem sc__law_words_changed : FnScope N__law_words_changed ["_law_hand_here", "_law_words", "_law_some"] (defScope s__law_words_changed) := ⟨rfl, rfl, rfl, by decide +kernel, rfl, by decide +kernel, by decide +kernel⟩
abbrev s__law_spoilt : Stmt := top 44
abbrev N__law_spoilt : List Str := ["_law_hand_here", "_law_text", "_law_heads", "_law_rows", "_law_way", "_law_at", "_law_words", "_law_some"]
theorem sc__law_spoilt : FnScope N__law_spoilt ["_law_hand_here", "_law_text", "_law_heads"] (defScope s__law_spoilt) := ⟨rfl, rfl, rfl, by decide +kernel, rfl, by decide +kernel, by decide +kernel⟩
abbrev s_rows_of : Stmt := top 30
abbrev N_rows_of : List Str := ["text"]
theorem sc_rows_of : FnScope N_rows_of ["text"] (defScope s_rows_of) := ⟨rfl, rfl, rfl, by decide +kernel, rfl, by decide +kernel, by decide +kernel⟩
abbrev s_number_of : Stmt := top 27
abbrev N_number_of : List Str := ["word", "figure"]
theorem sc_number_of : FnScope N_number_of ["word"] (defScope s_number_of) := ⟨rfl, rfl, rfl, by decide +kernel, rfl, by decide +kernel, by decide +kernel⟩
abbrev s_numbers_of : Stmt := top 28
abbrev N_numbers_of : List Str := ["words", "found", "word"]
theorem sc_numbers_of : FnScope N_numbers_of ["words"] (defScope s_numbers_of) := ⟨rfl, rfl, rfl, by decide +kernel, rfl, by decide +kernel, by decide +kernel⟩
abbrev s_numbers_behind : Stmt := top 29
abbrev N_numbers_behind : List Str := ["name", "row", "size", "first", "rest", "found"]
theorem sc_numbers_behind : FnScope N_numbers_behind ["name", "row", "size"] (defScope s_numbers_behind) := ⟨rfl, rfl, rfl, by decide +kernel, rfl, by decide +kernel, by decide +kernel⟩
abbrev s_place_in_game : Stmt := top 34
abbrev N_place_in_game : List Str := ["row"]
theorem sc_place_in_game : FnScope N_place_in_game ["row"] (defScope s_place_in_game) := ⟨rfl, rfl, rfl, by decide +kernel, rfl, by decide +kernel, by decide +kernel⟩
abbrev s_way_in_game : Stmt := top 33
abbrev N_way_in_game : List Str := ["row"]
theorem sc_way_in_game : FnScope N_way_in_game ["row"] (defScope s_way_in_game) := ⟨rfl, rfl, rfl, by decide +kernel, rfl, by decide +kernel, by decide +kernel⟩
abbrev s_taken : Stmt := top 31
abbrev N_taken : List Str := ["rows", "at", "read", "found"]
theorem sc_taken : FnScope N_taken ["rows", "at", "read"] (defScope s_taken) := ⟨rfl, rfl, rfl, by decide +kernel, rfl, by decide +kernel, by decide +kernel⟩
abbrev s_check_end : Stmt := top 32
abbrev N_check_end : List Str := ["rows", "at"]
theorem sc_check_end : FnScope N_check_end ["rows", "at"] (defScope s_check_end) := ⟨rfl, rfl, rfl, by decide +kernel, rfl, by decide +kernel, by decide +kernel⟩
abbrev s_is_whole : Stmt := top 13
abbrev N_is_whole : List Str := ["thing"]
theorem sc_is_whole : FnScope N_is_whole ["thing"] (defScope s_is_whole) := ⟨rfl, rfl, rfl, by decide +kernel, rfl, by decide +kernel, by decide +kernel⟩
abbrev s_is_below : Stmt := top 14
abbrev N_is_below : List Str := ["thing", "many"]
theorem sc_is_below : FnScope N_is_below ["thing", "many"] (defScope s_is_below) := ⟨rfl, rfl, rfl, by decide +kernel, rfl, by decide +kernel, by decide +kernel⟩
abbrev s_are_below : Stmt := top 19
abbrev N_are_below : List Str := ["thing", "many", "bound", "one"]
theorem sc_are_below : FnScope N_are_below ["thing", "many", "bound"] (defScope s_are_below) := ⟨rfl, rfl, rfl, by decide +kernel, rfl, by decide +kernel, by decide +kernel⟩
abbrev s_are_owners : Stmt := top 20
abbrev N_are_owners : List Str := ["thing"]
theorem sc_are_owners : FnScope N_are_owners ["thing"] (defScope s_are_owners) := ⟨rfl, rfl, rfl, by decide +kernel, rfl, by decide +kernel, by decide +kernel⟩
abbrev s_are_rising : Stmt := top 15
abbrev N_are_rising : List Str := ["some", "one", "other"]
theorem sc_are_rising : FnScope N_are_rising ["some"] (defScope s_are_rising) := ⟨rfl, rfl, rfl, by decide +kernel, rfl, by decide +kernel, by decide +kernel⟩
abbrev s_are_ways : Stmt := top 21
abbrev N_are_ways : List Str := ["thing", "many", "way", "start", "end"]
theorem sc_are_ways : FnScope N_are_ways ["thing", "many"] (defScope s_are_ways) := ⟨rfl, rfl, rfl, by decide +kernel, rfl, by decide +kernel, by decide +kernel⟩
abbrev s_fault_of : Stmt := top 22
abbrev N_fault_of : List Str := ["owners", "ranks", "ways"]
theorem sc_fault_of : FnScope N_fault_of ["owners", "ranks", "ways"] (defScope s_fault_of) := ⟨rfl, rfl, rfl, by decide +kernel, rfl, by decide +kernel, by decide +kernel⟩
abbrev s_Game___init__ : Stmt := inn 23 0
abbrev N_Game___init__ : List Str := ["self", "owners", "ranks", "ways", "why"]
theorem sc_Game___init__ : FnScope N_Game___init__ ["self", "owners", "ranks", "ways"] (defScope s_Game___init__) := ⟨rfl, rfl, rfl, by decide +kernel, rfl, by decide +kernel, by decide +kernel⟩
abbrev s_read_game : Stmt := top 35
abbrev N_read_game : List Str := ["text", "rows", "places", "at", "ways", "owner", "rank"]
theorem sc_read_game : FnScope N_read_game ["text"] (defScope s_read_game) := ⟨rfl, rfl, rfl, by decide +kernel, rfl, by decide +kernel, by decide +kernel⟩
abbrev s__law_class : Stmt := top 46
abbrev N__law_class : List Str := ["_law_caught", "_law_marks"]
theorem sc__law_class : FnScope N__law_class ["_law_caught"] (defScope s__law_class) := ⟨rfl, rfl, rfl, by decide +kernel, rfl, by decide +kernel, by decide +kernel⟩
abbrev s__law_told : Stmt := top 48
abbrev N__law_told : List Str := ["_law_text", "_law_caught", "_law_found", "e"]
theorem sc__law_told : FnScope N__law_told ["_law_text"] (defScope s__law_told) := ⟨rfl, rfl, rfl, by decide +kernel, rfl, by decide +kernel, by decide +kernel⟩
abbrev s__law_numbers : Stmt := top 45
abbrev N__law_numbers : List Str := ["_law_words", "_law_found", "_law_word", "_law_figure"]
theorem sc__law_numbers : FnScope N__law_numbers ["_law_words"] (defScope s__law_numbers) := ⟨rfl, rfl, rfl, by decide +kernel, rfl, by decide +kernel, by decide +kernel⟩
abbrev s__law_read : Stmt := top 47
abbrev N__law_read : List Str := ["_law_text", "_law_rows", "_law_places", "_law_ways", "_law_at", "_law_row", "_law_numbers_here", "_law_first", "_law_place"]
theorem sc__law_read : FnScope N__law_read ["_law_text"] (defScope s__law_read) := ⟨rfl, rfl, rfl, by decide +kernel, rfl, by decide +kernel, by decide +kernel⟩
abbrev s__law_due : Stmt := top 49
abbrev N__law_due : List Str := ["_law_text", "_law_found", "_law_caught", "e"]
theorem sc__law_due : FnScope N__law_due ["_law_text"] (defScope s__law_due) := ⟨rfl, rfl, rfl, by decide +kernel, rfl, by decide +kernel, by decide +kernel⟩
abbrev s_law : Stmt := top 50
abbrev N_law : List Str := ["_law_script", "_law_hand_here", "_law_heads", "_law_turn", "_law_text", "_law_change", "_law_thing", "_law_k", "_law_some"]
theorem sc_law : FnScope N_law ["_law_script"] (defScope s_law) := ⟨rfl, rfl, rfl, by decide +kernel, rfl, by decide +kernel, by decide +kernel⟩
abbrev s_NoText___init__ : Stmt := inn 5 0
abbrev N_NoText___init__ : List Str := ["self", "row"]
theorem sc_NoText___init__ : FnScope N_NoText___init__ ["self", "row"] (defScope s_NoText___init__) := ⟨rfl, rfl, rfl, by decide +kernel, rfl, by decide +kernel, by decide +kernel⟩
abbrev s_NoGame___init__ : Stmt := inn 4 0
abbrev N_NoGame___init__ : List Str := ["self", "why"]
theorem sc_NoGame___init__ : FnScope N_NoGame___init__ ["self", "why"] (defScope s_NoGame___init__) := ⟨rfl, rfl, rfl, by decide +kernel, rfl, by decide +kernel, by decide +kernel⟩
structure En (w : World) (K : PySem.W.Frag) (mg : Str → Option Value) where
  sysd : SysD K
  m_ValueError : mg "ValueError" = none
  m_all : mg "all" = none
  m_bool : mg "bool" = none
  m_enumerate : mg "enumerate" = none
  m_int : mg "int" = none
  m_isinstance : mg "isinstance" = none
  m_len : mg "len" = none
  m_range : mg "range" = none
  m_repr : mg "repr" = none
  m_str : mg "str" = none
  m_tuple : mg "tuple" = none
  m_zip : mg "zip" = none
  g_NoText : mg "NoText" = some (.ref (He.ga K "NoText"))
  g_NoGame : mg "NoGame" = some (.ref (He.ga K "NoGame"))
  g_HallError : mg "HallError" = some (.ref (He.ga K "HallError"))
  g_NoHall : mg "NoHall" = some (.ref (He.ga K "NoHall"))
  g_NoLine : mg "NoLine" = some (.ref (He.ga K "NoLine"))
  g_NoName : mg "NoName" = some (.ref (He.ga K "NoName"))
  g_NoSort : mg "NoSort" = some (.ref (He.ga K "NoSort"))
  g_NotCertain : mg "NotCertain" = some (.ref (He.ga K "NotCertain"))
  g_TooMany : mg "TooMany" = some (.ref (He.ga K "TooMany"))
  g_Unlike : mg "Unlike" = some (.ref (He.ga K "Unlike"))
  xi_NoText : ExcC K (He.ga K "NoText")
  xm_NoText_HallError : PySem.W.exmOne K (.ref (He.ga K "NoText")) (.ref (He.ga K "HallError")) = some true
  kit_NoText_NoText : PySem.W.kitOne K (.ref (He.ga K "NoText")) (.ref (He.ga K "NoText")) = some true
  kit_NoText_NoHall : PySem.W.kitOne K (.ref (He.ga K "NoText")) (.ref (He.ga K "NoHall")) = some false
  kit_NoText_NoGame : PySem.W.kitOne K (.ref (He.ga K "NoText")) (.ref (He.ga K "NoGame")) = some false
  kit_NoText_ValueError : PySem.W.kitOne K (.ref (He.ga K "NoText")) (.type "ValueError") = some true
  kitA_NoText_0 : PySem.W.kitAny K (.ref (He.ga K "NoText")) [.ref (He.ga K "NoLine"), .ref (He.ga K "NoName"), .ref (He.ga K "NoSort"), .ref (He.ga K "NotCertain"), .ref (He.ga K "TooMany"), .ref (He.ga K "Unlike")] = some false
  xi_NoGame : ExcC K (He.ga K "NoGame")
  xm_NoGame_HallError : PySem.W.exmOne K (.ref (He.ga K "NoGame")) (.ref (He.ga K "HallError")) = some true
  kit_NoGame_NoText : PySem.W.kitOne K (.ref (He.ga K "NoGame")) (.ref (He.ga K "NoText")) = some false
  kit_NoGame_NoHall : PySem.W.kitOne K (.ref (He.ga K "NoGame")) (.ref (He.ga K "NoHall")) = some false
  kit_NoGame_NoGame : PySem.W.kitOne K (.ref (He.ga K "NoGame")) (.ref (He.ga K "NoGame")) = some true
  kit_NoGame_ValueError : PySem.W.kitOne K (.ref (He.ga K "NoGame")) (.type "ValueError") = some true
  kitA_NoGame_0 : PySem.W.kitAny K (.ref (He.ga K "NoGame")) [.ref (He.ga K "NoLine"), .ref (He.ga K "NoName"), .ref (He.ga K "NoSort"), .ref (He.ga K "NotCertain"), .ref (He.ga K "TooMany"), .ref (He.ga K "Unlike")] = some false
  oe_NoText : OexC K (He.ga K "NoText")
  ei_NoText : ExI K (He.ga K "NoText") (He.ma K (He.ga K "NoText") "__init__")
  no_NoText : PySem.W.findIn K (.ref (He.ga K "NoText")) "row" = some none
  fd_NoText___init__ : FuncData
  F_NoText___init__ : FunD K "__init__" "NoText.__init__" (defArgs s_NoText___init__) (defBody s_NoText___init__) (defScope s_NoText___init__) [] [] (He.ma K (He.ga K "NoText") "__init__") fd_NoText___init__
  b_NoText___init__ : Binds K fd_NoText___init__ ["self", "row"] []
  oe_NoGame : OexC K (He.ga K "NoGame")
  ei_NoGame : ExI K (He.ga K "NoGame") (He.ma K (He.ga K "NoGame") "__init__")
  no_NoGame : PySem.W.findIn K (.ref (He.ga K "NoGame")) "why" = some none
  fd_NoGame___init__ : FuncData
  F_NoGame___init__ : FunD K "__init__" "NoGame.__init__" (defArgs s_NoGame___init__) (defBody s_NoGame___init__) (defScope s_NoGame___init__) [] [] (He.ma K (He.ga K "NoGame") "__init__") fd_NoGame___init__
  b_NoGame___init__ : Binds K fd_NoGame___init__ ["self", "why"] []
  eb_HallError : EBs K (He.ga K "HallError")
  fd__law_hand : FuncData
  F__law_hand : FunD K "_law_hand" "_law_hand" (defArgs s__law_hand) (defBody s__law_hand) (defScope s__law_hand) [] [] (He.ga K "_law_hand") fd__law_hand
  g__law_hand : mg "_law_hand" = some (.ref (He.ga K "_law_hand"))
  b__law_hand : Binds K fd__law_hand ["_law_script"] []
  fd__law_game_text : FuncData
  F__law_game_text : FunD K "_law_game_text" "_law_game_text" (defArgs s__law_game_text) (defBody s__law_game_text) (defScope s__law_game_text) [] [] (He.ga K "_law_game_text") fd__law_game_text
  g__law_game_text : mg "_law_game_text" = some (.ref (He.ga K "_law_game_text"))
  b__law_game_text : Binds K fd__law_game_text ["_law_things"] []
  fd__law_pick : FuncData
  F__law_pick : FunD K "_law_pick" "_law_pick" (defArgs s__law_pick) (defBody s__law_pick) (defScope s__law_pick) [] [] (He.ga K "_law_pick") fd__law_pick
  g__law_pick : mg "_law_pick" = some (.ref (He.ga K "_law_pick"))
  b__law_pick : Binds K fd__law_pick ["_law_hand_here", "_law_many"] []
  fd__law_game : FuncData
  F__law_game : FunD K "_law_game" "_law_game" (defArgs s__law_game) (defBody s__law_game) (defScope s__law_game) [] [] (He.ga K "_law_game") fd__law_game
  g__law_game : mg "_law_game" = some (.ref (He.ga K "_law_game"))
  b__law_game : Binds K fd__law_game ["_law_hand_here", "_law_upmost"] []
  fd__law_of : FuncData
  F__law_of : FunD K "_law_of" "_law_of" (defArgs s__law_of) (defBody s__law_of) (defScope s__law_of) [] [] (He.ga K "_law_of") fd__law_of
  g__law_of : mg "_law_of" = some (.ref (He.ga K "_law_of"))
  b__law_of : Binds K fd__law_of ["_law_hand_here", "_law_some"] []
  fd__law_sign_changed : FuncData
  F__law_sign_changed : FunD K "_law_sign_changed" "_law_sign_changed" (defArgs s__law_sign_changed) (defBody s__law_sign_changed) (defScope s__law_sign_changed) [] [] (He.ga K "_law_sign_changed") fd__law_sign_changed
  g__law_sign_changed : mg "_law_sign_changed" = some (.ref (He.ga K "_law_sign_changed"))
  b__law_sign_changed : Binds K fd__law_sign_changed ["_law_hand_here", "_law_text"] []
  fd__law_words_changed : FuncData
  F__law_words_changed : FunD K "_law_words_changed" "_law_words_changed" (defArgs s__law_words_changed) (defBody s__law_words_changed) (defScope s__law_words_changed) [] [] (He.ga K "_law_words_changed") fd__law_words_changed
  g__law_words_changed : mg "_law_words_changed" = some (.ref (He.ga K "_law_words_changed"))
  b__law_words_changed : Binds K fd__law_words_changed ["_law_hand_here", "_law_words", "_law_some"] []
  fd__law_spoilt : FuncData
  F__law_spoilt : FunD K "_law_spoilt" "_law_spoilt" (defArgs s__law_spoilt) (defBody s__law_spoilt) (defScope s__law_spoilt) [] [] (He.ga K "_law_spoilt") fd__law_spoilt
  g__law_spoilt : mg "_law_spoilt" = some (.ref (He.ga K "_law_spoilt"))
  b__law_spoilt : Binds K fd__law_spoilt ["_law_hand_here", "_law_text", "_law_heads"] []
  fd_rows_of : FuncData
  F_rows_of : FunD K "rows_of" "rows_of" (defArgs s_rows_of) (defBody s_rows_of) (defScope s_rows_of) [] [] (He.ga K "rows_of") fd_rows_of
  g_rows_of : mg "rows_of" = some (.ref (He.ga K "rows_of"))
  b_rows_of : Binds K fd_rows_of ["text"] []
  fd_number_of : FuncData
  F_number_of : FunD K "number_of" "number_of" (defArgs s_number_of) (defBody s_number_of) (defScope s_number_of) [] [] (He.ga K "number_of") fd_number_of
  g_number_of : mg "number_of" = some (.ref (He.ga K "number_of"))
  b_number_of : Binds K fd_number_of ["word"] []
  fd_numbers_of : FuncData
  F_numbers_of : FunD K "numbers_of" "numbers_of" (defArgs s_numbers_of) (defBody s_numbers_of) (defScope s_numbers_of) [] [] (He.ga K "numbers_of") fd_numbers_of
  g_numbers_of : mg "numbers_of" = some (.ref (He.ga K "numbers_of"))
  b_numbers_of : Binds K fd_numbers_of ["words"] []
  fd_numbers_behind : FuncData
  F_numbers_behind : FunD K "numbers_behind" "numbers_behind" (defArgs s_numbers_behind) (defBody s_numbers_behind) (defScope s_numbers_behind) [V.non] [] (He.ga K "numbers_behind") fd_numbers_behind
  g_numbers_behind : mg "numbers_behind" = some (.ref (He.ga K "numbers_behind"))
  b_numbers_behind : Binds K fd_numbers_behind ["name", "row", "size"] [Value.none]
  kb_numbers_behind : KBn K fd_numbers_behind ["name", "row", "size"] 2 ["size"] (fun us ws => us ++ ws) (fun vs zs => vs ++ zs)
  fd_place_in_game : FuncData
  F_place_in_game : FunD K "place_in_game" "place_in_game" (defArgs s_place_in_game) (defBody s_place_in_game) (defScope s_place_in_game) [] [] (He.ga K "place_in_game") fd_place_in_game
  g_place_in_game : mg "place_in_game" = some (.ref (He.ga K "place_in_game"))
  b_place_in_game : Binds K fd_place_in_game ["row"] []
  fd_way_in_game : FuncData
  F_way_in_game : FunD K "way_in_game" "way_in_game" (defArgs s_way_in_game) (defBody s_way_in_game) (defScope s_way_in_game) [] [] (He.ga K "way_in_game") fd_way_in_game
  g_way_in_game : mg "way_in_game" = some (.ref (He.ga K "way_in_game"))
  b_way_in_game : Binds K fd_way_in_game ["row"] []
  fd_taken : FuncData
  F_taken : FunD K "taken" "taken" (defArgs s_taken) (defBody s_taken) (defScope s_taken) [] [] (He.ga K "taken") fd_taken
  g_taken : mg "taken" = some (.ref (He.ga K "taken"))
  b_taken : Binds K fd_taken ["rows", "at", "read"] []
  fd_check_end : FuncData
  F_check_end : FunD K "check_end" "check_end" (defArgs s_check_end) (defBody s_check_end) (defScope s_check_end) [] [] (He.ga K "check_end") fd_check_end
  g_check_end : mg "check_end" = some (.ref (He.ga K "check_end"))
  b_check_end : Binds K fd_check_end ["rows", "at"] []
  fd_is_whole : FuncData
  F_is_whole : FunD K "is_whole" "is_whole" (defArgs s_is_whole) (defBody s_is_whole) (defScope s_is_whole) [] [] (He.ga K "is_whole") fd_is_whole
  g_is_whole : mg "is_whole" = some (.ref (He.ga K "is_whole"))
  b_is_whole : Binds K fd_is_whole ["thing"] []
  fd_is_below : FuncData
  F_is_below : FunD K "is_below" "is_below" (defArgs s_is_below) (defBody s_is_below) (defScope s_is_below) [] [] (He.ga K "is_below") fd_is_below
  g_is_below : mg "is_below" = some (.ref (He.ga K "is_below"))
  b_is_below : Binds K fd_is_below ["thing", "many"] []
  fd_are_below : FuncData
  F_are_below : FunD K "are_below" "are_below" (defArgs s_are_below) (defBody s_are_below) (defScope s_are_below) [] [] (He.ga K "are_below") fd_are_below
  g_are_below : mg "are_below" = some (.ref (He.ga K "are_below"))
  b_are_below : Binds K fd_are_below ["thing", "many", "bound"] []
  fd_are_owners : FuncData
  F_are_owners : FunD K "are_owners" "are_owners" (defArgs s_are_owners) (defBody s_are_owners) (defScope s_are_owners) [] [] (He.ga K "are_owners") fd_are_owners
  g_are_owners : mg "are_owners" = some (.ref (He.ga K "are_owners"))
  b_are_owners : Binds K fd_are_owners ["thing"] []
  fd_are_rising : FuncData
  F_are_rising : FunD K "are_rising" "are_rising" (defArgs s_are_rising) (defBody s_are_rising) (defScope s_are_rising) [] [] (He.ga K "are_rising") fd_are_rising
  g_are_rising : mg "are_rising" = some (.ref (He.ga K "are_rising"))
  b_are_rising : Binds K fd_are_rising ["some"] []
  fd_are_ways : FuncData
  F_are_ways : FunD K "are_ways" "are_ways" (defArgs s_are_ways) (defBody s_are_ways) (defScope s_are_ways) [] [] (He.ga K "are_ways") fd_are_ways
  g_are_ways : mg "are_ways" = some (.ref (He.ga K "are_ways"))
  b_are_ways : Binds K fd_are_ways ["thing", "many"] []
  fd_fault_of : FuncData
  F_fault_of : FunD K "fault_of" "fault_of" (defArgs s_fault_of) (defBody s_fault_of) (defScope s_fault_of) [] [] (He.ga K "fault_of") fd_fault_of
  g_fault_of : mg "fault_of" = some (.ref (He.ga K "fault_of"))
  b_fault_of : Binds K fd_fault_of ["owners", "ranks", "ways"] []
  fd_Game___init__ : FuncData
  F_Game___init__ : FunD K "__init__" "Game.__init__" (defArgs s_Game___init__) (defBody s_Game___init__) (defScope s_Game___init__) [] [] (He.ma K (He.ga K "Game") "__init__") fd_Game___init__
  b_Game___init__ : Binds K fd_Game___init__ ["self", "owners", "ranks", "ways"] []
  fd_read_game : FuncData
  F_read_game : FunD K "read_game" "read_game" (defArgs s_read_game) (defBody s_read_game) (defScope s_read_game) [] [] (He.ga K "read_game") fd_read_game
  g_read_game : mg "read_game" = some (.ref (He.ga K "read_game"))
  b_read_game : Binds K fd_read_game ["text"] []
  fd__law_class : FuncData
  F__law_class : FunD K "_law_class" "_law_class" (defArgs s__law_class) (defBody s__law_class) (defScope s__law_class) [] [] (He.ga K "_law_class") fd__law_class
  g__law_class : mg "_law_class" = some (.ref (He.ga K "_law_class"))
  b__law_class : Binds K fd__law_class ["_law_caught"] []
  fd__law_told : FuncData
  F__law_told : FunD K "_law_told" "_law_told" (defArgs s__law_told) (defBody s__law_told) (defScope s__law_told) [] [] (He.ga K "_law_told") fd__law_told
  g__law_told : mg "_law_told" = some (.ref (He.ga K "_law_told"))
  b__law_told : Binds K fd__law_told ["_law_text"] []
  fd__law_numbers : FuncData
  F__law_numbers : FunD K "_law_numbers" "_law_numbers" (defArgs s__law_numbers) (defBody s__law_numbers) (defScope s__law_numbers) [] [] (He.ga K "_law_numbers") fd__law_numbers
  g__law_numbers : mg "_law_numbers" = some (.ref (He.ga K "_law_numbers"))
  b__law_numbers : Binds K fd__law_numbers ["_law_words"] []
  fd__law_read : FuncData
  F__law_read : FunD K "_law_read" "_law_read" (defArgs s__law_read) (defBody s__law_read) (defScope s__law_read) [] [] (He.ga K "_law_read") fd__law_read
  g__law_read : mg "_law_read" = some (.ref (He.ga K "_law_read"))
  b__law_read : Binds K fd__law_read ["_law_text"] []
  fd__law_due : FuncData
  F__law_due : FunD K "_law_due" "_law_due" (defArgs s__law_due) (defBody s__law_due) (defScope s__law_due) [] [] (He.ga K "_law_due") fd__law_due
  g__law_due : mg "_law_due" = some (.ref (He.ga K "_law_due"))
  b__law_due : Binds K fd__law_due ["_law_text"] []
  fd_law : FuncData
  F_law : FunD K "law" "law" (defArgs s_law) (defBody s_law) (defScope s_law) [] [] (He.ga K "law") fd_law
  g_law : mg "law" = some (.ref (He.ga K "law"))
  b_law : Binds K fd_law ["_law_script"] []
  cl_Game : Cls K (He.ga K "Game")
  mk_Game : Mk K (He.ga K "Game") (He.ma K (He.ga K "Game") "__init__")
  g_Game : mg "Game" = some (.ref (He.ga K "Game"))
  hf_owners : ∀ c ∈ (["Game"] : List Str), Cls K (He.ga K c) ∧ NoAttr K (He.ga K c) "owners"
  hf_ranks : ∀ c ∈ (["Game"] : List Str), Cls K (He.ga K c) ∧ NoAttr K (He.ga K c) "ranks"
  hf_ways : ∀ c ∈ (["Game"] : List Str), Cls K (He.ga K c) ∧ NoAttr K (He.ga K c) "ways"
  t_MOST_FIGURES : Tok
  k_MOST_FIGURES : mg "MOST_FIGURES" = some (.int 9 t_MOST_FIGURES)
  t_FIGURES : Tok
  k_FIGURES : mg "FIGURES" = some (.str "0123456789" t_FIGURES)
  t_SIDES : Tok
  k_SIDES : mg "SIDES" = some (.int 2 t_SIDES)
  t_RANKS : Tok
  k_RANKS : mg "RANKS" = some (.int 10 t_RANKS)
theorem w_NoText___init__ {P : Program} {w : World} {K : PySem.W.Frag} {mg : Str → Option Value} {bs : Heap} (N : En w K mg) : FnOk P w K mg bs CX0 1 (He.ma K (He.ga K "NoText") "__init__") N.fd_NoText___init__ ["self", "row"] (spEI K "row") :=
  fn_ei (y := "nothing is so written") N.F_NoText___init__ sc_NoText___init__ (by decide) fun cv A o s H E hr => (pss_cons (ps_expr (pe_obinit N.eb_HallError (by rfl) N.g_HallError (pa_cons (pv 0) (pa_cons pe_str pa_nil)))) (pss_one (ps_ost (pv 0) (pv 1))))
theorem w_NoGame___init__ {P : Program} {w : World} {K : PySem.W.Frag} {mg : Str → Option Value} {bs : Heap} (N : En w K mg) : FnOk P w K mg bs CX0 1 (He.ma K (He.ga K "NoGame") "__init__") N.fd_NoGame___init__ ["self", "why"] (spEI K "why") :=
  fn_ei (y := "no game") N.F_NoGame___init__ sc_NoGame___init__ (by decide) fun cv A o s H E hr => (pss_cons (ps_expr (pe_obinit N.eb_HallError (by rfl) N.g_HallError (pa_cons (pv 0) (pa_cons pe_str pa_nil)))) (pss_one (ps_ost (pv 0) (pv 1))))
noncomputable def m__law_hand (script_1 : U) : M U := fnM (.bind (.ret (.int 23)) fun seed_2 => (seqO (S := U) (.bind (itW (slW (.ret script_1) noP (someP (.ret (.int 63))))) fun us => forO (fun cell_4 s_3 => (.bind (op2 modU (op2 addU (op2 addU (op2 mulU (.ret s_3) (.ret (.int 6364136223846793))) (op2 modU (.ret cell_4) (.ret (.int 2305843009213693951)))) (.ret (.int 31))) (.ret (.int 2305843009213693951))) fun seed_5 => (nxO seed_5))) us seed_2) fun s_3 => (rtO (.bind (lstW (consA (.bind (lcW (itW (slW (.ret script_1) noP (someP (.ret (.int 63))))) (fun cell_6 => (testW (op2 geU (.ret cell_6) (op2 powU (.ret (.int 10)) (.ret (.int 18)))))) fun cell_6 => (.ret cell_6)) fun u => .o (flatO u)) (consA (.bind (.ret s_3) fun u => .o (leafO u)) nilA))) fun u => .bind (.o (lstO u)) allocM))))
theorem w__law_hand {P : Program} {w : World} {K : PySem.W.Frag} {mg : Str → Option Value} {bs : Heap} (N : En w K mg) : FnOk P w K mg bs CX0 1 (He.ga K "_law_hand") N.fd__law_hand ["_law_script"] (spM ⟨K, He.ga K⟩ (L1 m__law_hand)) :=
  fn_okF N.F__law_hand sc__law_hand (ar1 fun _ => rfl) fun cv A o s H E hr => ⟨_, PSs.nox (pss_cons (ps_set (i := 1) sc__law_hand.nd rfl (.inl rfl) pe_int)
 (pss_cons (ps_for PassesOwn.never rfl (pi_seqK K (pe_slice (sl_seqK K) (pv 0) po_none (po_some pe_int))) (pg_name (i := 2) sc__law_hand.nd rfl (.inl rfl))
 (pss_one (ps_set (i := 1) sc__law_hand.nd rfl (.inl rfl) (pe_op op_modN (pe_op (op_addK K) (pe_op (op_addK K) (pe_op (op_mulK K) (pv 1) pe_int) (pe_op op_modN (pv 2) pe_int)) pe_int) pe_int))))
 (pss_one (ps_ret (pe_lst (pa_cons (pe_lc (own := [("_law_cell", 2)]) (by rfl) sc__law_hand.nd (pi_seqK K (pe_slice (sl_seqK K) (pv 0) po_none (po_some pe_int))) (blkOk_by (own := [("_law_cell", 2)]) (N := N__law_hand) (sc := defScope s__law_hand) (by decide +kernel)) (fun _ _ _ _ _ => (pg_name (i := 2) sc__law_hand.nd rfl (.inl rfl))) (fun _ _ _ _ _ => (pts_one (pt_cmpR op_ge (pv 2) (pe_op op_pow pe_int pe_int) (nomark _)))) (fun _ _ _ _ _ => (pv 2))) (pa_cons (pv 1) pa_nil))))))),
   fun B H0 as0 => ar1 fun script_1 => ⟨_, rfl,
 (blk_set (i := 1) ev_int fun seed_2 =>
 (blk_seq (blk_forL (S := U) [2] [2] (fun s_3 => [some (.im script_1), some (.im s_3), none]) (by rfl) (src_it (ev_sl (EvW.r (ev_var (i := 0) rfl)) eo_none (eo_some (EvW.r ev_int))))
 (fun s_3 cell_4 st r q => ⟨_, tg_name (by decide), (blk_last (blk_set (i := 1) (ev_op ok_mod (EvW.r (ev_op ok_add (EvW.r (ev_op ok_add (EvW.r (ev_op ok_mul (EvW.r (ev_var (i := 1) rfl)) (EvW.r ev_int))) (EvW.r (ev_op ok_mod (EvW.r (ev_var (i := 2) rfl)) (EvW.r ev_int))))) (EvW.r ev_int))) (EvW.r ev_int)) fun seed_5 =>
 (blk_fin [2] (by rfl))))⟩)) fun s_3 =>
 (blk_retC (enf_lst (eanf_cons (enf_flat (en_lc (by rfl) (src_it (ev_sl (EvW.r (ev_var (i := 0) rfl)) eo_none (eo_some (EvW.r ev_int)))) fun cell_6 st r q => ⟨_, tg_name (by decide), (et_test (EvW.r (ev_op ok_ge (EvW.r (ev_var (i := 2) rfl)) (EvW.r (ev_op ok_pow (EvW.r ev_int) (EvW.r ev_int)))))), (ev_var (i := 2) rfl)⟩)) (eanf_cons (enf_leaf (ev_var (i := 1) rfl)) eanf_nil))))))⟩⟩
noncomputable def m__law_game_text (things_1 : U) : M U := fnM (.bind (.ret things_1) fun u_15 => un3 u_15 fun owners_2 ranks_3 ways_4 => (.bind (op2 addU (lstW (consA (.ret (.str "game")) nilA)) (lcW (zipW (.ret owners_2) (.ret ranks_3)) (fun e_11 => un2 e_11 fun owner_9 rank_10 => (.ret true)) fun e_11 => un2 e_11 fun owner_9 rank_10 => (op2 addU (op2 addU (op2 addU (.ret (.str "place ")) (op1 strOU (.ret owner_9))) (.ret (.str " "))) (op1 strOU (.ret rank_10))))) fun rows_8 => (rtO (op2 joinU (.ret (.str "\n")) (op2 addU (.ret rows_8) (lcW (itW (.ret ways_4)) (fun e_14 => un2 e_14 fun place_12 end_13 => (.ret true)) fun e_14 => un2 e_14 fun place_12 end_13 => (op2 addU (op2 addU (op2 addU (.ret (.str "way ")) (op1 strOU (.ret place_12))) (.ret (.str " "))) (op1 strOU (.ret end_13)))))))))
theorem w__law_game_text {P : Program} {w : World} {K : PySem.W.Frag} {mg : Str → Option Value} {bs : Heap} (N : En w K mg) : FnOk P w K mg bs CX0 1 (He.ga K "_law_game_text") N.fd__law_game_text ["_law_things"] (spM ⟨K, He.ga K⟩ (L1 m__law_game_text)) :=
  fn_okF N.F__law_game_text sc__law_game_text (ar1 fun _ => rfl) fun cv A o s H E hr => ⟨_, PSs.nox (pss_cons (ps_asg (pv 0) (pg_tup rfl (pgs_cons (pg_name (i := 1) sc__law_game_text.nd rfl (.inl rfl)) (pgs_cons (pg_name (i := 2) sc__law_game_text.nd rfl (.inl rfl)) (pgs_cons (pg_name (i := 3) sc__law_game_text.nd rfl (.inl rfl)) pgs_nil)))))
 (pss_cons (ps_set (i := 4) sc__law_game_text.nd rfl (.inl rfl) (pe_op (op_addK K) (pe_lst (pa_cons pe_str pa_nil)) (pe_lc (own := [("_law_owner", 5), ("_law_rank", 6)]) (by rfl) sc__law_game_text.nd (pi_zipAK K (by rfl) N.m_zip (pa_cons (pv 1) (pa_cons (pv 2) pa_nil))) (blkOk_by (own := [("_law_owner", 5), ("_law_rank", 6)]) (N := N__law_game_text) (sc := defScope s__law_game_text) (by decide +kernel)) (fun _ _ _ _ _ => (pg_tupK K (n := 2) rfl (pgs_cons (pg_name (i := 5) sc__law_game_text.nd rfl (.inl rfl)) (pgs_cons (pg_name (i := 6) sc__law_game_text.nd rfl (.inl rfl)) pgs_nil)))) (fun _ _ _ _ _ => pts_nil) (fun _ _ _ _ _ => (pe_op (op_addK K) (pe_op (op_addK K) (pe_op (op_addK K) pe_str (pe_callTy cr_str01 (by rfl) N.m_str (by decide +kernel) (pa_cons (pv 5) pa_nil))) pe_str) (pe_callTy cr_str01 (by rfl) N.m_str (by decide +kernel) (pa_cons (pv 6) pa_nil)))))))
 (pss_one (ps_ret (pe_joinK (K := K) (by rfl) pe_str (pe_op (op_addK K) (pv 4) (pe_lc (own := [("_law_place", 7), ("_law_end", 8)]) (by rfl) sc__law_game_text.nd (pi_seqK K (pv 3)) (blkOk_by (own := [("_law_place", 7), ("_law_end", 8)]) (N := N__law_game_text) (sc := defScope s__law_game_text) (by decide +kernel)) (fun _ _ _ _ _ => (pg_tupK K (n := 2) rfl (pgs_cons (pg_name (i := 7) sc__law_game_text.nd rfl (.inl rfl)) (pgs_cons (pg_name (i := 8) sc__law_game_text.nd rfl (.inl rfl)) pgs_nil)))) (fun _ _ _ _ _ => pts_nil) (fun _ _ _ _ _ => (pe_op (op_addK K) (pe_op (op_addK K) (pe_op (op_addK K) pe_str (pe_callTy cr_str01 (by rfl) N.m_str (by decide +kernel) (pa_cons (pv 7) pa_nil))) pe_str) (pe_callTy cr_str01 (by rfl) N.m_str (by decide +kernel) (pa_cons (pv 8) pa_nil))))))))))),
   fun B H0 as0 => ar1 fun things_1 => ⟨_, rfl,
 (blk_tg (vs := [1, 2, 3]) (ev_var (i := 0) rfl) (pat3 (P := fun δ w => Blk _ _ δ w _ _) (by decide) (by decide) (by decide) fun owners_2 ranks_3 ways_4 =>
 (blk_set (i := 4) (ev_op ok_add (EvW.r (EvN.ew (en_lst (ea_cons ev_str ea_nil)))) (EvW.r (EvN.ew (en_lc (by rfl) (src_zip (ev_var (i := 1) rfl) (ev_var (i := 2) rfl)) (lcp2 (i := 5) (j := 6) (vs := [5, 6]) (by decide) (by decide) fun owner_9 rank_10 => ⟨et_yes, (ev_op ok_add (EvW.r (ev_op ok_add (EvW.r (ev_op ok_add (EvW.r ev_str) (EvW.r (ev_cb1 ok_str01 (EvW.r (ev_var (i := 5) rfl)))))) (EvW.r ev_str))) (EvW.r (ev_cb1 ok_str01 (EvW.r (ev_var (i := 6) rfl)))))⟩))))) fun rows_8 =>
 (blk_ret (EvW.f (ev_join (EvW.r ev_str) (EvW.r (ev_op ok_add (EvW.r (ev_var (i := 4) rfl)) (EvW.r (EvN.ew (en_lc (by rfl) (src_it (ev_var (i := 3) rfl)) (lcp2 (i := 7) (j := 8) (vs := [7, 8]) (by decide) (by decide) fun place_12 end_13 => ⟨et_yes, (ev_op ok_add (EvW.r (ev_op ok_add (EvW.r (ev_op ok_add (EvW.r ev_str) (EvW.r (ev_cb1 ok_str01 (EvW.r (ev_var (i := 7) rfl)))))) (EvW.r ev_str))) (EvW.r (ev_cb1 ok_str01 (EvW.r (ev_var (i := 8) rfl)))))⟩))))))))))))⟩⟩
noncomputable def m__law_pick (hand_here_1 many_2 : U) : M U := fnM (seqO (S := Unit) (whileO (fun s_3 => (andT (testW (.bind (.bind (.bind (.ret hand_here_1) locM) fun c => .bind (.ret (.int 0)) fun n => .o (ixC c n)) fun c => .o (neU c.2.1 (.lst [])))) (testW (op2 eqU (.bind (.bind (.bind (.bind (.ret hand_here_1) locM) fun c => .bind (.ret (.int 0)) fun n => .o (ixC c n)) fun c => .bind (.ret (.int 0)) fun n => .o (ixC c n)) fun c => .o (valC c)) (.ret (.int 0)))))) (fun s_3 => (.bind (.bind (.bind (.ret hand_here_1) locM) fun c => .bind (.ret (.int 0)) fun n => .o (ixC c n)) fun c => .bind (.ret (.int 0)) fun n => .bind (.o (mutC popAtL c [n])) fun d => .bind (putC d.2.1 d.2.2.1) fun _ => (nxO ()))) ()) fun s_3 => (seqO (S := Unit) (iteW (testW (.bind (.bind (.bind (.ret hand_here_1) locM) fun c => .bind (.ret (.int 0)) fun n => .o (ixC c n)) fun c => .o (neU c.2.1 (.lst [])))) (.bind (op2 modU (.bind (.bind (.bind (.bind (.ret hand_here_1) locM) fun c => .bind (.ret (.int 0)) fun n => .o (ixC c n)) fun c => .bind (.ret (.int 0)) fun n => .o (ixC c n)) fun c => .o (valC c)) (.ret many_2)) fun digit_5 => (.bind (op2 fdivU (.bind (.bind (.bind (.bind (.ret hand_here_1) locM) fun c => .bind (.ret (.int 0)) fun n => .o (ixC c n)) fun c => .bind (.ret (.int 0)) fun n => .o (ixC c n)) fun c => .o (valC c)) (.ret many_2)) fun x => .bind (.bind (.bind (.ret hand_here_1) locM) fun c => .bind (.ret (.int 0)) fun n => .o (ixC c n)) fun c => .bind (.ret (.int 0)) fun n => .bind (.o (setItC c n x)) fun d => .bind (putC d.1 d.2.1) fun _ => (rtO (.ret digit_5)))) (nxO ())) fun s_4 => (.bind (op2 modU (op2 addU (op2 mulU (.bind (.bind (.bind (.ret hand_here_1) locM) fun c => .bind (.ret (.int 1)) fun n => .o (ixC c n)) fun c => .o (valC c)) (.ret (.int 3935559000370003))) (.ret (.int 2691343689449507))) (.ret (.int 2305843009213693951))) fun x => .bind (.bind (.ret hand_here_1) locM) fun c => .bind (.ret (.int 1)) fun n => .bind (.o (setItC c n x)) fun d => .bind (putC d.1 d.2.1) fun _ => (.bind (op2 fdivU (.bind (.bind (.bind (.ret hand_here_1) locM) fun c => .bind (.ret (.int 1)) fun n => .o (ixC c n)) fun c => .o (valC c)) (.ret (.int 65537))) fun mixed_6 => (rtO (op2 modU (op2 fdivU (op2 modU (op2 mulU (.ret mixed_6) (op2 addU (op2 modU (.ret mixed_6) (.ret (.int 8191))) (.ret (.int 3)))) (.ret (.int 2305843009213693921))) (.ret (.int 4099))) (.ret many_2)))))))
theorem w__law_pick {P : Program} {w : World} {K : PySem.W.Frag} {mg : Str → Option Value} {bs : Heap} (N : En w K mg) : FnOk P w K mg bs CX0 1 (He.ga K "_law_pick") N.fd__law_pick ["_law_hand_here", "_law_many"] (spM ⟨K, He.ga K⟩ (L2' m__law_pick)) :=
  fn_okF N.F__law_pick sc__law_pick (ar2 fun _ _ => rfl) fun cv A o s H E hr => ⟨_, PSs.nox (pss_cons (ps_while PassesOwn.never (PW.pt (pw_and (pt_cmpR (op_neK K hr.units) (pe_ix (ix_seqK K) (pv 0) pe_int (fun _ _ => rfl)) (pe_lst pa_nil) (nomark _)) (pw_and1 (pt_cmpR (op_eqK K hr.units) (pe_ix (ix_seqK K) (pe_ix (ix_seqK K) (pv 0) pe_int (fun _ _ => rfl)) pe_int (fun _ _ => rfl)) pe_int (nomark _)))))
 (pss_one (ps_expr (pe_bm PySem.F.plainAttrs_list PySem.F.slot_list_pop PySem.F.type_list_pop mt_popAt (pe_ix (ix_seqK K) (pv 0) pe_int (fun _ _ => rfl)) (pa_cons pe_int pa_nil)))))
 (pss_cons (ps_if (pt_cmpR (op_neK K hr.units) (pe_ix (ix_seqK K) (pv 0) pe_int (fun _ _ => rfl)) (pe_lst pa_nil) (nomark _))
 (pss_cons (ps_set (i := 2) sc__law_pick.nd rfl (.inl rfl) (pe_op op_modN (pe_ix (ix_seqK K) (pe_ix (ix_seqK K) (pv 0) pe_int (fun _ _ => rfl)) pe_int (fun _ _ => rfl)) (pv 1)))
 (pss_cons (ps_asg (pe_op op_fdivN (pe_ix (ix_seqK K) (pe_ix (ix_seqK K) (pv 0) pe_int (fun _ _ => rfl)) pe_int (fun _ _ => rfl)) (pv 1)) (pg_sub (pe_ix (ix_seqK K) (pv 0) pe_int (fun _ _ => rfl)) pe_int set_list))
 (pss_one (ps_ret (pv 2)))))
 pss_nil)
 (pss_cons (ps_asg (pe_op op_modN (pe_op (op_addK K) (pe_op (op_mulK K) (pe_ix (ix_seqK K) (pv 0) pe_int (fun _ _ => rfl)) pe_int) pe_int) pe_int) (pg_sub (pv 0) pe_int set_list))
 (pss_cons (ps_set (i := 3) sc__law_pick.nd rfl (.inl rfl) (pe_op op_fdivN (pe_ix (ix_seqK K) (pv 0) pe_int (fun _ _ => rfl)) pe_int))
 (pss_one (ps_ret (pe_op op_modN (pe_op op_fdivN (pe_op op_modN (pe_op (op_mulK K) (pv 3) (pe_op (op_addK K) (pe_op op_modN (pv 3) pe_int) pe_int)) pe_int) pe_int) (pv 1)))))))),
   fun B H0 as0 => ar2 fun hand_here_1 many_2 => ⟨_, rfl,
 (blk_seq (blk_whileL (S := Unit) [] (fun s_3 => [some (.im hand_here_1), some (.im many_2), none, none]) (by rfl) (fun s_3 => (et_and (et_test (EvW.r (ev_neC (ec_ix (ec_loc (ev_var (i := 0) rfl)) eq_int)))) (et_test (EvW.r (ev_op ok_eq (EvW.r (ev_cell (r := false) (ec_ix (ec_ix (ec_loc (ev_var (i := 0) rfl)) eq_int) eq_int))) (EvW.r ev_int))))))
 (fun s_3 => (blk_last (blk_mutC mut_popAt (ec_ix (ec_loc (ev_var (i := 0) rfl)) eq_int) eq_int
 (blk_fin [] (by rfl)))))) fun s_3 =>
 (blk_seq (blk_ifL (S := Unit) (fun s_4 => [some (.im hand_here_1), some (.im many_2), none, none]) (et_test (EvW.r (ev_neC (ec_ix (ec_loc (ev_var (i := 0) rfl)) eq_int))))
 (blk_set (i := 2) (ev_op ok_mod (EvW.r (ev_cell (r := false) (ec_ix (ec_ix (ec_loc (ev_var (i := 0) rfl)) eq_int) eq_int))) (EvW.r (ev_var (i := 1) rfl))) fun digit_5 =>
 (blk_setC (ev_op ok_fdiv (EvW.r (ev_cell (r := false) (ec_ix (ec_ix (ec_loc (ev_var (i := 0) rfl)) eq_int) eq_int))) (EvW.r (ev_var (i := 1) rfl))) (ec_ix (ec_loc (ev_var (i := 0) rfl)) eq_int) eq_int
 (blk_ret (EvW.f (ev_var (i := 2) rfl)))))
 (blk_fin [2] (by rfl))) fun s_4 =>
 (blk_setC (ev_op ok_mod (EvW.r (ev_op ok_add (EvW.r (ev_op ok_mul (EvW.r (ev_cell (r := false) (ec_ix (ec_loc (ev_var (i := 0) rfl)) eq_int))) (EvW.r ev_int))) (EvW.r ev_int))) (EvW.r ev_int)) (ec_loc (ev_var (i := 0) rfl)) eq_int
 (blk_set (i := 3) (ev_op ok_fdiv (EvW.r (ev_cell (r := false) (ec_ix (ec_loc (ev_var (i := 0) rfl)) eq_int))) (EvW.r ev_int)) fun mixed_6 =>
 (blk_ret (EvW.f (ev_op ok_mod (EvW.r (ev_op ok_fdiv (EvW.r (ev_op ok_mod (EvW.r (ev_op ok_mul (EvW.r (ev_var (i := 3) rfl)) (EvW.r (ev_op ok_add (EvW.r (ev_op ok_mod (EvW.r (ev_var (i := 3) rfl)) (EvW.r ev_int))) (EvW.r ev_int))))) (EvW.r ev_int))) (EvW.r ev_int))) (EvW.r (ev_var (i := 1) rfl)))))))))⟩⟩
noncomputable def m__law_game (hand_here_1 upmost_2 : U) : M U := fnM (.bind (op2 addU (.ret (.int 1)) (callM (L2' m__law_pick) (consA (.ret hand_here_1) (consA (.ret upmost_2) nilA)))) fun many_3 => (.bind (op1 tupleU (lcW (rng1W (.ret many_3)) (fun place_7 => (.ret true)) fun place_7 => (callM (L2' m__law_pick) (consA (.ret hand_here_1) (consA (.ret (.int 2)) nilA))))) fun owners_6 => (.bind (op1 tupleU (lcW (rng1W (.ret many_3)) (fun place_11 => (.ret true)) fun place_11 => (callM (L2' m__law_pick) (consA (.ret hand_here_1) (consA (.ret (.int 10)) nilA))))) fun ranks_13 => (.bind (lstW nilA) fun ways_14 => (seqO (S := U) (.bind (rng1W (.ret many_3)) fun us => forO (fun place_16 s_15 => (.bind (lcW (rng1W (.ret many_3)) (fun end_20 => (testW (op2 eqU (callM (L2' m__law_pick) (consA (.ret hand_here_1) (consA (.ret (.int 3)) nilA))) (.ret (.int 0))))) fun end_20 => (.ret end_20)) fun some_19 => (.bindS (.bind (.ret (s_15, id)) fun h => .bind (consA (lcW (itW (op2 addU (.ret some_19) (op2 mulU (lstW (consA (callM (L2' m__law_pick) (consA (.ret hand_here_1) (consA (.ret many_3) nilA))) nilA)) (op1 int1U (op2 eqU (.ret some_19) (lstW nilA)))))) (fun end_23 => (.ret true)) fun end_23 => (tupW (consA (.ret place_16) (consA (.ret end_23) nilA)))) nilA) fun xs => .o (mutL extL h xs)) fun ways_22 => (nxO ways_22)))) us ways_14) fun s_15 => (rtO (tupW (consA (.ret owners_6) (consA (.ret ranks_13) (consA (op1 tupleU (.ret s_15)) nilA))))))))))
theorem w__law_game {P : Program} {w : World} {K : PySem.W.Frag} {mg : Str → Option Value} {bs : Heap} (N : En w K mg) : FnOk P w K mg bs CX0 2 (He.ga K "_law_game") N.fd__law_game ["_law_hand_here", "_law_upmost"] (spM ⟨K, He.ga K⟩ (L2' m__law_game)) :=
  fn_okF N.F__law_game sc__law_game (ar2 fun _ _ => rfl) fun cv A o s H E hr => ⟨_, PSs.nox (pss_cons (ps_set (i := 2) sc__law_game.nd rfl (.inl rfl) (pe_op (op_addK K) pe_int (pe_call (w__law_pick N) (hr.mono (by decide)) (by rfl) N.g__law_pick N.F__law_pick.kp N.b__law_pick .nil pass0 (pa_cons (pv 0) (pa_cons (pv 1) pa_nil)))))
 (pss_cons (ps_set (i := 3) sc__law_game.nd rfl (.inl rfl) (pe_callTy (call_tupleK K) (by rfl) N.m_tuple (by decide +kernel) (pa_cons (pe_lc (own := [("_law_place", 6)]) (by rfl) sc__law_game.nd (pi_range1 (by rfl) N.m_range (pa_cons (pv 2) pa_nil)) (blkOk_by (own := [("_law_place", 6)]) (N := N__law_game) (sc := defScope s__law_game) (by decide +kernel)) (fun _ _ _ _ _ => (pg_name (i := 6) sc__law_game.nd rfl (.inl rfl))) (fun _ _ _ _ _ => pts_nil) (fun _ _ _ _ _ => (pe_call (w__law_pick N) (hr.mono (by decide)) (by rfl) N.g__law_pick N.F__law_pick.kp N.b__law_pick .nil pass0 (pa_cons (pv 0) (pa_cons pe_int pa_nil))))) pa_nil)))
 (pss_cons (ps_par (i := 4) (j := 5) (by rfl) sc__law_game.nd rfl rfl (by decide) rfl rfl (pa_cons (pe_callTy (call_tupleK K) (by rfl) N.m_tuple (by decide +kernel) (pa_cons (pe_lc (own := [("_law_place", 6)]) (by rfl) sc__law_game.nd (pi_range1 (by rfl) N.m_range (pa_cons (pv 2) pa_nil)) (blkOk_by (own := [("_law_place", 6)]) (N := N__law_game) (sc := defScope s__law_game) (by decide +kernel)) (fun _ _ _ _ _ => (pg_name (i := 6) sc__law_game.nd rfl (.inl rfl))) (fun _ _ _ _ _ => pts_nil) (fun _ _ _ _ _ => (pe_call (w__law_pick N) (hr.mono (by decide)) (by rfl) N.g__law_pick N.F__law_pick.kp N.b__law_pick .nil pass0 (pa_cons (pv 0) (pa_cons pe_int pa_nil))))) pa_nil)) (pa_cons (pe_lst pa_nil) pa_nil)) (by rfl))
 (pss_cons (ps_for PassesOwn.never rfl (pi_range1 (by rfl) N.m_range (pa_cons (pv 2) pa_nil)) (pg_name (i := 6) sc__law_game.nd rfl (.inr rfl))
 (pss_cons (ps_setLc (i := 7) (own := [("_law_end", 8)]) (by rfl) sc__law_game.nd rfl rfl (sw_true rfl rfl rfl (by decide +kernel)) (pi_range1 (by rfl) N.m_range (pa_cons (pv 2) pa_nil)) (blkOk_by (own := [("_law_end", 8)]) (N := N__law_game) (sc := defScope s__law_game) (by decide +kernel)) (fun _ _ _ _ _ => (pg_name (i := 8) sc__law_game.nd rfl (.inl rfl))) (fun _ _ _ _ _ => (pts_one (pt_cmpR (op_eqK K hr.units) (pe_call (w__law_pick N) (hr.mono (by decide)) (by rfl) N.g__law_pick N.F__law_pick.kp N.b__law_pick .nil pass0 (pa_cons (pv 0) (pa_cons pe_int pa_nil))) pe_int (nomark _)))) (fun _ _ _ _ _ => (pv 8)))
 (pss_one (ps_expr (pe_bm PySem.F.plainAttrs_list PySem.F.slot_list_extend PySem.F.type_list_extend mt_extend (pv 5) (pa_cons (pe_lc (own := [("_law_end", 8)]) (by rfl) sc__law_game.nd (pi_seqK K (pe_op (op_addK K) (pv 7) (pe_op (op_mulK K) (pe_lst (pa_cons (pe_call (w__law_pick N) (hr.mono (by decide)) (by rfl) N.g__law_pick N.F__law_pick.kp N.b__law_pick .nil pass0 (pa_cons (pv 0) (pa_cons (pv 2) pa_nil))) pa_nil)) (pe_callTy call_int1 (by rfl) N.m_int (by decide +kernel) (pa_cons (pe_cmpR (op_eqK K hr.units) (pv 7) (pe_lst pa_nil) (nomark _)) pa_nil))))) (blkOk_by (own := [("_law_end", 8)]) (N := N__law_game) (sc := defScope s__law_game) (by decide +kernel)) (fun _ _ _ _ _ => (pg_name (i := 8) sc__law_game.nd rfl (.inl rfl))) (fun _ _ _ _ _ => pts_nil) (fun _ _ _ _ _ => (pe_tup (pa_cons (pv 6) (pa_cons (pv 8) pa_nil))))) pa_nil))))))
 (pss_one (ps_ret (pe_tup (pa_cons (pv 3) (pa_cons (pv 4) (pa_cons (pe_callTy (call_tupleK K) (by rfl) N.m_tuple (by decide +kernel) (pa_cons (pv 5) pa_nil)) pa_nil)))))))))),
   fun B H0 as0 => ar2 fun hand_here_1 upmost_2 => ⟨_, rfl,
 (blk_set (i := 2) (ev_op ok_add (EvW.r ev_int) (EvW.r (ev_call (ea_cons (ev_var (i := 0) rfl) (ea_cons (ev_var (i := 1) rfl) ea_nil))))) fun many_3 =>
 (blk_set (i := 3) (ev_cb1 ok_tuple (EvW.r (EvN.ew (en_lc (by rfl) (src_range1 (EvW.r (ev_var (i := 2) rfl))) fun place_7 st r q => ⟨_, tg_name (by decide), et_yes, (ev_call (ea_cons (ev_var (i := 0) rfl) (ea_cons ev_int ea_nil)))⟩)))) fun owners_6 =>
 (blk_par_WN (i0 := 4) (i1 := 5) (ev_cb1 ok_tuple (EvW.r (EvN.ew (en_lc (by rfl) (src_range1 (EvW.r (ev_var (i := 2) rfl))) fun place_11 st r q => ⟨_, tg_name (by decide), et_yes, (ev_call (ea_cons (ev_var (i := 0) rfl) (ea_cons ev_int ea_nil)))⟩)))) (en_lst ea_nil) fun ranks_13 ways_14 =>
 (blk_seq (blk_forL (S := U) [6, 7] [6] (fun s_15 => [some (.im hand_here_1), some (.im upmost_2), some (.im many_3), some (.im owners_6), some (.im ranks_13), some (.own (.lst .leaf) s_15), none, none, none]) (by rfl) (src_range1 (EvW.r (ev_var (i := 2) rfl)))
 (fun s_15 place_16 st r q => ⟨_, tg_name (by decide), (blk_set (i := 7) (EvN.ew (en_lc (by rfl) (src_range1 (EvW.r (ev_var (i := 2) rfl))) fun end_20 st r q => ⟨_, tg_name (by decide), (et_test (EvW.r (ev_op ok_eq (EvW.r (ev_call (ea_cons (ev_var (i := 0) rfl) (ea_cons ev_int ea_nil)))) (EvW.r ev_int)))), (ev_var (i := 8) rfl)⟩)) fun some_19 =>
 (blk_last (blk_x2 (ex_mut mut_ext (eh_slot (i := 5) rfl) (ea_cons (EvN.ew (en_lc (by rfl) (src_it (ev_op ok_add (EvW.r (ev_var (i := 7) rfl)) (EvW.r (ev_op ok_mul (EvW.r (EvN.ew (en_lst (ea_cons (ev_call (ea_cons (ev_var (i := 0) rfl) (ea_cons (ev_var (i := 2) rfl) ea_nil))) ea_nil)))) (EvW.r (ev_cb1 (ok_int1 (fun i H Q q => .inl ⟨i, rfl, q⟩) fun b H Q q => .inr ⟨b, rfl, q⟩) (EvW.r (ev_op ok_eq (EvW.r (ev_var (i := 7) rfl)) (EvW.r (EvN.ew (en_lst ea_nil))))))))))) fun end_23 st r q => ⟨_, tg_name (by decide), et_yes, (ev_tup (ea_cons (ev_var (i := 6) rfl) (ea_cons (ev_var (i := 8) rfl) ea_nil)))⟩)) ea_nil)) fun ways_22 =>
 (blk_fin [6, 7] (by rfl)))))⟩)) fun s_15 =>
 (blk_ret (ef_tup (eaf_cons (EvW.f (ev_var (i := 3) rfl)) (eaf_cons (EvW.f (ev_var (i := 4) rfl)) (eaf_cons (EvW.f (ev_cb1 ok_tuple (ev_ownL (i := 5) rfl))) eaf_nil)))))))))⟩⟩
noncomputable def m__law_of (hand_here_1 some_2 : U) : M U := fnM (rtO (op2 ixSU (.ret some_2) (callM (L2' m__law_pick) (consA (.ret hand_here_1) (consA (op1 lenSU (.ret some_2)) nilA)))))
theorem w__law_of {P : Program} {w : World} {K : PySem.W.Frag} {mg : Str → Option Value} {bs : Heap} (N : En w K mg) : FnOk P w K mg bs CX0 2 (He.ga K "_law_of") N.fd__law_of ["_law_hand_here", "_law_some"] (spM ⟨K, He.ga K⟩ (L2' m__law_of)) :=
  fn_okF N.F__law_of sc__law_of (ar2 fun _ _ => rfl) fun cv A o s H E hr => ⟨_, PSs.nox (pss_one (ps_ret (pe_ix (ix_anyK K) (pv 1) (pe_call (w__law_pick N) (hr.mono (by decide)) (by rfl) N.g__law_pick N.F__law_pick.kp N.b__law_pick .nil pass0 (pa_cons (pv 0) (pa_cons (pe_callB (call_lenS K (by rfl)) (by rfl) N.m_len PySem.boot_len (pa_cons (pv 1) pa_nil)) pa_nil))) (fun _ _ => rfl)))),
   fun B H0 as0 => ar2 fun hand_here_1 some_2 => ⟨_, rfl,
 (blk_ret (EvW.f (ev_op ok_ixS (EvW.r (ev_var (i := 1) rfl)) (EvW.r (ev_call (ea_cons (ev_var (i := 0) rfl) (ea_cons (ev_cb1 ok_lenS (EvW.r (ev_var (i := 1) rfl))) ea_nil)))))))⟩⟩
noncomputable def m__law_sign_changed (hand_here_1 text_2 : U) : M U := fnM (.bind (callM (L2' m__law_pick) (consA (.ret hand_here_1) (consA (op2 addU (op1 lenSU (.ret text_2)) (.ret (.int 1))) nilA))) fun at_3 => (.bind (callM (L2' m__law_pick) (consA (.ret hand_here_1) (consA (.ret (.int 4)) nilA))) fun way_4 => (.bind (callM (L2' m__law_of) (consA (.ret hand_here_1) (consA (.ret (.str "0123456789 -\n\nabehiklnprsty/()~A")) nilA))) fun sign_5 => (seqO (S := Unit) (iteW (testW (op2 eqU (.ret way_4) (.ret (.int 1)))) (rtO (op2 addU (slSW (.ret text_2) noP (someP (.ret at_3))) (slSW (.ret text_2) (someP (op2 addU (.ret at_3) (.ret (.int 1)))) noP))) (nxO ())) fun s_6 => (seqO (S := Unit) (iteW (testW (op2 eqU (.ret way_4) (.ret (.int 3)))) (rtO (op2 addU (slSW (.ret text_2) noP (someP (op2 addU (.ret at_3) (.ret (.int 1))))) (slSW (.ret text_2) (someP (.ret at_3)) noP))) (nxO ())) fun s_7 => (rtO (op2 addU (op2 addU (slSW (.ret text_2) noP (someP (.ret at_3))) (.ret sign_5)) (slSW (.ret text_2) (someP (op2 addU (.ret at_3) (op2 fdivU (.ret way_4) (.ret (.int 2))))) noP))))))))
theorem w__law_sign_changed {P : Program} {w : World} {K : PySem.W.Frag} {mg : Str → Option Value} {bs : Heap} (N : En w K mg) : FnOk P w K mg bs CX0 3 (He.ga K "_law_sign_changed") N.fd__law_sign_changed ["_law_hand_here", "_law_text"] (spM ⟨K, He.ga K⟩ (L2' m__law_sign_changed)) :=
  fn_okF N.F__law_sign_changed sc__law_sign_changed (ar2 fun _ _ => rfl) fun cv A o s H E hr => ⟨_, PSs.nox (pss_cons (ps_par (i := 2) (j := 3) (by rfl) sc__law_sign_changed.nd rfl rfl (by decide) rfl rfl (pa_cons (pe_call (w__law_pick N) (hr.mono (by decide)) (by rfl) N.g__law_pick N.F__law_pick.kp N.b__law_pick .nil pass0 (pa_cons (pv 0) (pa_cons (pe_op (op_addK K) (pe_callB (call_lenS K (by rfl)) (by rfl) N.m_len PySem.boot_len (pa_cons (pv 1) pa_nil)) pe_int) pa_nil))) (pa_cons (pe_call (w__law_pick N) (hr.mono (by decide)) (by rfl) N.g__law_pick N.F__law_pick.kp N.b__law_pick .nil pass0 (pa_cons (pv 0) (pa_cons pe_int pa_nil))) pa_nil)) (by rfl))
 (pss_cons (ps_set (i := 4) sc__law_sign_changed.nd rfl (.inl rfl) (pe_call (w__law_of N) (hr.mono (by decide)) (by rfl) N.g__law_of N.F__law_of.kp N.b__law_of .nil pass0 (pa_cons (pv 0) (pa_cons pe_str pa_nil))))
 (pss_cons (ps_if (pt_cmpR (op_eqK K hr.units) (pv 3) pe_int (nomark _))
 (pss_one (ps_ret (pe_op (op_addK K) (pe_slice C8.sl_txt (pv 1) po_none (po_some (pv 2))) (pe_slice C8.sl_txt (pv 1) (po_some (pe_op (op_addK K) (pv 2) pe_int)) po_none))))
 pss_nil)
 (pss_cons (ps_if (pt_cmpR (op_eqK K hr.units) (pv 3) pe_int (nomark _))
 (pss_one (ps_ret (pe_op (op_addK K) (pe_slice C8.sl_txt (pv 1) po_none (po_some (pe_op (op_addK K) (pv 2) pe_int))) (pe_slice C8.sl_txt (pv 1) (po_some (pv 2)) po_none))))
 pss_nil)
 (pss_one (ps_ret (pe_op (op_addK K) (pe_op (op_addK K) (pe_slice C8.sl_txt (pv 1) po_none (po_some (pv 2))) (pv 4)) (pe_slice C8.sl_txt (pv 1) (po_some (pe_op (op_addK K) (pv 2) (pe_op op_fdivN (pv 3) pe_int))) po_none)))))))),
   fun B H0 as0 => ar2 fun hand_here_1 text_2 => ⟨_, rfl,
 (blk_par2 (i0 := 2) (i1 := 3) (ev_call (ea_cons (ev_var (i := 0) rfl) (ea_cons (ev_op ok_add (EvW.r (ev_cb1 ok_lenS (EvW.r (ev_var (i := 1) rfl)))) (EvW.r ev_int)) ea_nil))) (ev_call (ea_cons (ev_var (i := 0) rfl) (ea_cons ev_int ea_nil))) fun at_3 way_4 =>
 (blk_set (i := 4) (ev_call (ea_cons (ev_var (i := 0) rfl) (ea_cons ev_str ea_nil))) fun sign_5 =>
 (blk_seq (blk_ifL (S := Unit) (fun s_6 => [some (.im hand_here_1), some (.im text_2), some (.im at_3), some (.im way_4), some (.im sign_5)]) (et_test (EvW.r (ev_op ok_eq (EvW.r (ev_var (i := 3) rfl)) (EvW.r ev_int))))
 (blk_ret (EvW.f (ev_op ok_add (EvW.r (ev_slS (EvW.r (ev_var (i := 1) rfl)) eo_none (eo_some (EvW.r (ev_var (i := 2) rfl))))) (EvW.r (ev_slS (EvW.r (ev_var (i := 1) rfl)) (eo_some (EvW.r (ev_op ok_add (EvW.r (ev_var (i := 2) rfl)) (EvW.r ev_int)))) eo_none)))))
 (blk_fin [] (by rfl))) fun s_6 =>
 (blk_seq (blk_ifL (S := Unit) (fun s_7 => [some (.im hand_here_1), some (.im text_2), some (.im at_3), some (.im way_4), some (.im sign_5)]) (et_test (EvW.r (ev_op ok_eq (EvW.r (ev_var (i := 3) rfl)) (EvW.r ev_int))))
 (blk_ret (EvW.f (ev_op ok_add (EvW.r (ev_slS (EvW.r (ev_var (i := 1) rfl)) eo_none (eo_some (EvW.r (ev_op ok_add (EvW.r (ev_var (i := 2) rfl)) (EvW.r ev_int)))))) (EvW.r (ev_slS (EvW.r (ev_var (i := 1) rfl)) (eo_some (EvW.r (ev_var (i := 2) rfl))) eo_none)))))
 (blk_fin [] (by rfl))) fun s_7 =>
 (blk_ret (EvW.f (ev_op ok_add (EvW.r (ev_op ok_add (EvW.r (ev_slS (EvW.r (ev_var (i := 1) rfl)) eo_none (eo_some (EvW.r (ev_var (i := 2) rfl))))) (EvW.r (ev_var (i := 4) rfl)))) (EvW.r (ev_slS (EvW.r (ev_var (i := 1) rfl)) (eo_some (EvW.r (ev_op ok_add (EvW.r (ev_var (i := 2) rfl)) (EvW.r (ev_op ok_fdiv (EvW.r (ev_var (i := 3) rfl)) (EvW.r ev_int)))))) eo_none)))))))))⟩⟩
noncomputable def m__law_words_changed (hand_here_1 words_2 some_3 : U) : M U := fnM (.bind (callM (L2' m__law_pick) (consA (.ret hand_here_1) (consA (op2 addU (op1 lenU (.ret words_2)) (.ret (.int 1))) nilA))) fun at_4 => (.bind (callM (L2' m__law_pick) (consA (.ret hand_here_1) (consA (.ret (.int 5)) nilA))) fun way_5 => (.bind (callM (L2' m__law_of) (consA (.ret hand_here_1) (consA (.ret some_3) nilA))) fun new_6 => (seqO (S := Unit) (iteW (testW (op2 eqU (.ret way_5) (.ret (.int 0)))) (rtO (op2 addU (slW (.ret words_2) noP (someP (.ret at_4))) (slW (.ret words_2) (someP (op2 addU (.ret at_4) (.ret (.int 1)))) noP))) (nxO ())) fun s_7 => (seqO (S := Unit) (iteW (testW (op2 eqU (.ret way_5) (.ret (.int 1)))) (rtO (op2 addU (slW (.ret words_2) noP (someP (op2 addU (.ret at_4) (.ret (.int 1))))) (slW (.ret words_2) (someP (.ret at_4)) noP))) (nxO ())) fun s_8 => (seqO (S := Unit) (iteW (testW (op2 eqU (.ret way_5) (.ret (.int 2)))) (rtO (op2 addU (op2 addU (slW (.ret words_2) noP (someP (.ret at_4))) (op1 revLU (slW (.ret words_2) (someP (.ret at_4)) (someP (op2 addU (.ret at_4) (.ret (.int 2))))))) (slW (.ret words_2) (someP (op2 addU (.ret at_4) (.ret (.int 2)))) noP))) (nxO ())) fun s_9 => (rtO (op2 addU (op2 addU (slW (.ret words_2) noP (someP (.ret at_4))) (lstW (consA (.ret new_6) nilA))) (slW (.ret words_2) (someP (op2 subU (op2 addU (.ret at_4) (.ret way_5)) (.ret (.int 3)))) noP)))))))))
theorem w__law_words_changed {P : Program} {w : World} {K : PySem.W.Frag} {mg : Str → Option Value} {bs : Heap} (N : En w K mg) : FnOk P w K mg bs CX0 3 (He.ga K "_law_words_changed") N.fd__law_words_changed ["_law_hand_here", "_law_words", "_law_some"] (spM ⟨K, He.ga K⟩ (L3 m__law_words_changed)) :=
  fn_okF N.F__law_words_changed sc__law_words_changed (ar3 fun _ _ _ => rfl) fun cv A o s H E hr => ⟨_, PSs.nox (pss_cons (ps_par (i := 3) (j := 4) (by rfl) sc__law_words_changed.nd rfl rfl (by decide) rfl rfl (pa_cons (pe_call (w__law_pick N) (hr.mono (by decide)) (by rfl) N.g__law_pick N.F__law_pick.kp N.b__law_pick .nil pass0 (pa_cons (pv 0) (pa_cons (pe_op (op_addK K) (pe_callB (call_lenK K) (by rfl) N.m_len PySem.boot_len (pa_cons (pv 1) pa_nil)) pe_int) pa_nil))) (pa_cons (pe_call (w__law_pick N) (hr.mono (by decide)) (by rfl) N.g__law_pick N.F__law_pick.kp N.b__law_pick .nil pass0 (pa_cons (pv 0) (pa_cons pe_int pa_nil))) pa_nil)) (by rfl))
 (pss_cons (ps_set (i := 5) sc__law_words_changed.nd rfl (.inl rfl) (pe_call (w__law_of N) (hr.mono (by decide)) (by rfl) N.g__law_of N.F__law_of.kp N.b__law_of .nil pass0 (pa_cons (pv 0) (pa_cons (pv 2) pa_nil))))
 (pss_cons (ps_if (pt_cmpR (op_eqK K hr.units) (pv 4) pe_int (nomark _))
 (pss_one (ps_ret (pe_op (op_addK K) (pe_slice (sl_seqK K) (pv 1) po_none (po_some (pv 3))) (pe_slice (sl_seqK K) (pv 1) (po_some (pe_op (op_addK K) (pv 3) pe_int)) po_none))))
 pss_nil)
 (pss_cons (ps_if (pt_cmpR (op_eqK K hr.units) (pv 4) pe_int (nomark _))
 (pss_one (ps_ret (pe_op (op_addK K) (pe_slice (sl_seqK K) (pv 1) po_none (po_some (pe_op (op_addK K) (pv 3) pe_int))) (pe_slice (sl_seqK K) (pv 1) (po_some (pv 3)) po_none))))
 pss_nil)
 (pss_cons (ps_if (pt_cmpR (op_eqK K hr.units) (pv 4) pe_int (nomark _))
 (pss_one (ps_ret (pe_op (op_addK K) (pe_op (op_addK K) (pe_slice (sl_seqK K) (pv 1) po_none (po_some (pv 3))) (pe_revLK K (pe_slice (sl_seqK K) (pv 1) (po_some (pv 3)) (po_some (pe_op (op_addK K) (pv 3) pe_int))))) (pe_slice (sl_seqK K) (pv 1) (po_some (pe_op (op_addK K) (pv 3) pe_int)) po_none))))
 pss_nil)
 (pss_one (ps_ret (pe_op (op_addK K) (pe_op (op_addK K) (pe_slice (sl_seqK K) (pv 1) po_none (po_some (pv 3))) (pe_lst (pa_cons (pv 5) pa_nil))) (pe_slice (sl_seqK K) (pv 1) (po_some (pe_op op_sub (pe_op (op_addK K) (pv 3) (pv 4)) pe_int)) po_none))))))))),
   fun B H0 as0 => ar3 fun hand_here_1 words_2 some_3 => ⟨_, rfl,
 (blk_par2 (i0 := 3) (i1 := 4) (ev_call (ea_cons (ev_var (i := 0) rfl) (ea_cons (ev_op ok_add (EvW.r (ev_cb1 ok_len (EvW.r (ev_var (i := 1) rfl)))) (EvW.r ev_int)) ea_nil))) (ev_call (ea_cons (ev_var (i := 0) rfl) (ea_cons ev_int ea_nil))) fun at_4 way_5 =>
 (blk_set (i := 5) (ev_call (ea_cons (ev_var (i := 0) rfl) (ea_cons (ev_var (i := 2) rfl) ea_nil))) fun new_6 =>
 (blk_seq (blk_ifL (S := Unit) (fun s_7 => [some (.im hand_here_1), some (.im words_2), some (.im some_3), some (.im at_4), some (.im way_5), some (.im new_6)]) (et_test (EvW.r (ev_op ok_eq (EvW.r (ev_var (i := 4) rfl)) (EvW.r ev_int))))
 (blk_ret (EvW.f (ev_op ok_add (EvW.r (ev_sl (EvW.r (ev_var (i := 1) rfl)) eo_none (eo_some (EvW.r (ev_var (i := 3) rfl))))) (EvW.r (ev_sl (EvW.r (ev_var (i := 1) rfl)) (eo_some (EvW.r (ev_op ok_add (EvW.r (ev_var (i := 3) rfl)) (EvW.r ev_int)))) eo_none)))))
 (blk_fin [] (by rfl))) fun s_7 =>
 (blk_seq (blk_ifL (S := Unit) (fun s_8 => [some (.im hand_here_1), some (.im words_2), some (.im some_3), some (.im at_4), some (.im way_5), some (.im new_6)]) (et_test (EvW.r (ev_op ok_eq (EvW.r (ev_var (i := 4) rfl)) (EvW.r ev_int))))
 (blk_ret (EvW.f (ev_op ok_add (EvW.r (ev_sl (EvW.r (ev_var (i := 1) rfl)) eo_none (eo_some (EvW.r (ev_op ok_add (EvW.r (ev_var (i := 3) rfl)) (EvW.r ev_int)))))) (EvW.r (ev_sl (EvW.r (ev_var (i := 1) rfl)) (eo_some (EvW.r (ev_var (i := 3) rfl))) eo_none)))))
 (blk_fin [] (by rfl))) fun s_8 =>
 (blk_seq (blk_ifL (S := Unit) (fun s_9 => [some (.im hand_here_1), some (.im words_2), some (.im some_3), some (.im at_4), some (.im way_5), some (.im new_6)]) (et_test (EvW.r (ev_op ok_eq (EvW.r (ev_var (i := 4) rfl)) (EvW.r ev_int))))
 (blk_ret (EvW.f (ev_op ok_add (EvW.r (ev_op ok_add (EvW.r (ev_sl (EvW.r (ev_var (i := 1) rfl)) eo_none (eo_some (EvW.r (ev_var (i := 3) rfl))))) (EvW.r (ev_revL (EvW.r (ev_sl (EvW.r (ev_var (i := 1) rfl)) (eo_some (EvW.r (ev_var (i := 3) rfl))) (eo_some (EvW.r (ev_op ok_add (EvW.r (ev_var (i := 3) rfl)) (EvW.r ev_int)))))))))) (EvW.r (ev_sl (EvW.r (ev_var (i := 1) rfl)) (eo_some (EvW.r (ev_op ok_add (EvW.r (ev_var (i := 3) rfl)) (EvW.r ev_int)))) eo_none)))))
 (blk_fin [] (by rfl))) fun s_9 =>
 (blk_ret (EvW.f (ev_op ok_add (EvW.r (ev_op ok_add (EvW.r (ev_sl (EvW.r (ev_var (i := 1) rfl)) eo_none (eo_some (EvW.r (ev_var (i := 3) rfl))))) (EvW.r (EvN.ew (en_lst (ea_cons (ev_var (i := 5) rfl) ea_nil)))))) (EvW.r (ev_sl (EvW.r (ev_var (i := 1) rfl)) (eo_some (EvW.r (ev_op ok_sub (EvW.r (ev_op ok_add (EvW.r (ev_var (i := 3) rfl)) (EvW.r (ev_var (i := 4) rfl)))) (EvW.r ev_int)))) eo_none))))))))))⟩⟩
noncomputable def m__law_spoilt (hand_here_1 text_2 heads_3 : U) : M U := fnM (.bind (op2 splitU (.ret text_2) (.ret (.str "\n"))) fun rows_4 => (.bind (callM (L2' m__law_pick) (consA (.ret hand_here_1) (consA (.ret (.int 3)) nilA))) fun way_5 => (seqO (S := Unit) (iteW (testW (op2 eqU (.ret way_5) (.ret (.int 0)))) (rtO (op2 joinU (.ret (.str "\n")) (callM (L3 m__law_words_changed) (consA (.ret hand_here_1) (consA (.ret rows_4) (consA (lstW (consA (callM (L2' m__law_of) (consA (.ret hand_here_1) (consA (.ret rows_4) nilA))) (consA (callM (L2' m__law_of) (consA (.ret hand_here_1) (consA (.ret heads_3) nilA))) (consA (.ret (.str "")) nilA)))) nilA)))))) (nxO ())) fun s_6 => (seqO (S := Unit) (iteW (testW (op2 eqU (.ret way_5) (.ret (.int 1)))) (.bind (callM (L2' m__law_pick) (consA (.ret hand_here_1) (consA (op1 lenU (.ret rows_4)) nilA))) fun at_8 => (.bind (op2 splitU (op2 ixU (.ret rows_4) (.ret at_8)) (.ret (.str " "))) fun words_9 => (.bind (lstW (consA (.ret (.str "0")) (consA (.ret (.str "1")) (consA (.ret (.str "7")) (consA (.ret (.str "00")) (consA (.ret (.str "-")) (consA (.ret (.str "")) (consA (.ret (.str "999999999")) (consA (.ret (.str "1000000000")) (consA (.ret (.str "/")) (consA (.ret (.str "(")) (consA (.ret (.str ")")) (consA (.ret (.str "by")) (consA (.ret (.str "ranks")) (consA (.ret (.str "01")) nilA))))))))))))))) fun some_10 => (.bind (callM (L3 m__law_words_changed) (consA (.ret hand_here_1) (consA (.ret words_9) (consA (op2 addU (.ret some_10) (lstW (consA (callM (L2' m__law_of) (consA (.ret hand_here_1) (consA (.ret words_9) nilA))) (consA (op2 ixU (op2 splitU (callM (L2' m__law_of) (consA (.ret hand_here_1) (consA (.ret heads_3) nilA))) (.ret (.str " "))) (.ret (.int 0))) nilA)))) nilA)))) fun words_11 => (rtO (op2 joinU (.ret (.str "\n")) (op2 addU (op2 addU (slW (.ret rows_4) noP (someP (.ret at_8))) (lstW (consA (op2 joinU (.ret (.str " ")) (.ret words_11)) nilA))) (slW (.ret rows_4) (someP (op2 addU (.ret at_8) (.ret (.int 1)))) noP)))))))) (nxO ())) fun s_7 => (rtO (callM (L2' m__law_sign_changed) (consA (.ret hand_here_1) (consA (.ret text_2) nilA))))))))
theorem w__law_spoilt {P : Program} {w : World} {K : PySem.W.Frag} {mg : Str → Option Value} {bs : Heap} (N : En w K mg) : FnOk P w K mg bs CX0 4 (He.ga K "_law_spoilt") N.fd__law_spoilt ["_law_hand_here", "_law_text", "_law_heads"] (spM ⟨K, He.ga K⟩ (L3 m__law_spoilt)) :=
  fn_okF N.F__law_spoilt sc__law_spoilt (ar3 fun _ _ _ => rfl) fun cv A o s H E hr => ⟨_, PSs.nox (pss_cons (ps_par (i := 3) (j := 4) (by rfl) sc__law_spoilt.nd rfl rfl (by decide) rfl rfl (pa_cons (pe_split (pv 1) pe_str) (pa_cons (pe_call (w__law_pick N) (hr.mono (by decide)) (by rfl) N.g__law_pick N.F__law_pick.kp N.b__law_pick .nil pass0 (pa_cons (pv 0) (pa_cons pe_int pa_nil))) pa_nil)) (by rfl))
 (pss_cons (ps_if (pt_cmpR (op_eqK K hr.units) (pv 4) pe_int (nomark _))
 (pss_one (ps_ret (pe_joinK (K := K) (by rfl) pe_str (pe_call (w__law_words_changed N) (hr.mono (by decide)) (by rfl) N.g__law_words_changed N.F__law_words_changed.kp N.b__law_words_changed .nil pass0 (pa_cons (pv 0) (pa_cons (pv 3) (pa_cons (pe_lst (pa_cons (pe_call (w__law_of N) (hr.mono (by decide)) (by rfl) N.g__law_of N.F__law_of.kp N.b__law_of .nil pass0 (pa_cons (pv 0) (pa_cons (pv 3) pa_nil))) (pa_cons (pe_call (w__law_of N) (hr.mono (by decide)) (by rfl) N.g__law_of N.F__law_of.kp N.b__law_of .nil pass0 (pa_cons (pv 0) (pa_cons (pv 2) pa_nil))) (pa_cons pe_str pa_nil)))) pa_nil)))))))
 pss_nil)
 (pss_cons (ps_if (pt_cmpR (op_eqK K hr.units) (pv 4) pe_int (nomark _))
 (pss_cons (ps_set (i := 5) sc__law_spoilt.nd rfl (.inl rfl) (pe_call (w__law_pick N) (hr.mono (by decide)) (by rfl) N.g__law_pick N.F__law_pick.kp N.b__law_pick .nil pass0 (pa_cons (pv 0) (pa_cons (pe_callB (call_lenK K) (by rfl) N.m_len PySem.boot_len (pa_cons (pv 3) pa_nil)) pa_nil))))
 (pss_cons (ps_set (i := 6) sc__law_spoilt.nd rfl (.inl rfl) (pe_split (pe_ix (ix_seqK K) (pv 3) (pv 5) (fun _ _ => rfl)) pe_str))
 (pss_cons (ps_set (i := 7) sc__law_spoilt.nd rfl (.inl rfl) (pe_lst (pa_cons pe_str (pa_cons pe_str (pa_cons pe_str (pa_cons pe_str (pa_cons pe_str (pa_cons pe_str (pa_cons pe_str (pa_cons pe_str (pa_cons pe_str (pa_cons pe_str (pa_cons pe_str (pa_cons pe_str (pa_cons pe_str (pa_cons pe_str pa_nil))))))))))))))))
 (pss_cons (ps_set (i := 6) sc__law_spoilt.nd rfl (.inl rfl) (pe_call (w__law_words_changed N) (hr.mono (by decide)) (by rfl) N.g__law_words_changed N.F__law_words_changed.kp N.b__law_words_changed .nil pass0 (pa_cons (pv 0) (pa_cons (pv 6) (pa_cons (pe_op (op_addK K) (pv 7) (pe_lst (pa_cons (pe_call (w__law_of N) (hr.mono (by decide)) (by rfl) N.g__law_of N.F__law_of.kp N.b__law_of .nil pass0 (pa_cons (pv 0) (pa_cons (pv 6) pa_nil))) (pa_cons (pe_ix (ix_seqK K) (pe_split (pe_call (w__law_of N) (hr.mono (by decide)) (by rfl) N.g__law_of N.F__law_of.kp N.b__law_of .nil pass0 (pa_cons (pv 0) (pa_cons (pv 2) pa_nil))) pe_str) pe_int (fun _ _ => rfl)) pa_nil)))) pa_nil)))))
 (pss_one (ps_ret (pe_joinK (K := K) (by rfl) pe_str (pe_op (op_addK K) (pe_op (op_addK K) (pe_slice (sl_seqK K) (pv 3) po_none (po_some (pv 5))) (pe_lst (pa_cons (pe_joinK (K := K) (by rfl) pe_str (pv 6)) pa_nil))) (pe_slice (sl_seqK K) (pv 3) (po_some (pe_op (op_addK K) (pv 5) pe_int)) po_none)))))))))
 pss_nil)
 (pss_one (ps_ret (pe_call (w__law_sign_changed N) (hr.mono (by decide)) (by rfl) N.g__law_sign_changed N.F__law_sign_changed.kp N.b__law_sign_changed .nil pass0 (pa_cons (pv 0) (pa_cons (pv 1) pa_nil)))))))),
   fun B H0 as0 => ar3 fun hand_here_1 text_2 heads_3 => ⟨_, rfl,
 (blk_par2 (i0 := 3) (i1 := 4) (ev_split (EvW.r (ev_var (i := 1) rfl)) (EvW.r ev_str)) (ev_call (ea_cons (ev_var (i := 0) rfl) (ea_cons ev_int ea_nil))) fun rows_4 way_5 =>
 (blk_seq (blk_ifL (S := Unit) (fun s_6 => [some (.im hand_here_1), some (.im text_2), some (.im heads_3), some (.im rows_4), some (.im way_5), none, none, none]) (et_test (EvW.r (ev_op ok_eq (EvW.r (ev_var (i := 4) rfl)) (EvW.r ev_int))))
 (blk_ret (EvW.f (ev_join (EvW.r ev_str) (EvW.r (ev_call (ea_cons (ev_var (i := 0) rfl) (ea_cons (ev_var (i := 3) rfl) (ea_cons (EvN.ew (en_lst (ea_cons (ev_call (ea_cons (ev_var (i := 0) rfl) (ea_cons (ev_var (i := 3) rfl) ea_nil))) (ea_cons (ev_call (ea_cons (ev_var (i := 0) rfl) (ea_cons (ev_var (i := 2) rfl) ea_nil))) (ea_cons ev_str ea_nil))))) ea_nil))))))))
 (blk_fin [] (by rfl))) fun s_6 =>
 (blk_seq (blk_ifL (S := Unit) (fun s_7 => [some (.im hand_here_1), some (.im text_2), some (.im heads_3), some (.im rows_4), some (.im way_5), none, none, none]) (et_test (EvW.r (ev_op ok_eq (EvW.r (ev_var (i := 4) rfl)) (EvW.r ev_int))))
 (blk_set (i := 5) (ev_call (ea_cons (ev_var (i := 0) rfl) (ea_cons (ev_cb1 ok_len (EvW.r (ev_var (i := 3) rfl))) ea_nil))) fun at_8 =>
 (blk_set (i := 6) (ev_split (EvW.r (ev_op ok_ix (EvW.r (ev_var (i := 3) rfl)) (EvW.r (ev_var (i := 5) rfl)))) (EvW.r ev_str)) fun words_9 =>
 (blk_set (i := 7) (EvN.ew (en_lst (ea_cons ev_str (ea_cons ev_str (ea_cons ev_str (ea_cons ev_str (ea_cons ev_str (ea_cons ev_str (ea_cons ev_str (ea_cons ev_str (ea_cons ev_str (ea_cons ev_str (ea_cons ev_str (ea_cons ev_str (ea_cons ev_str (ea_cons ev_str ea_nil)))))))))))))))) fun some_10 =>
 (blk_set (i := 6) (ev_call (ea_cons (ev_var (i := 0) rfl) (ea_cons (ev_var (i := 6) rfl) (ea_cons (ev_op ok_add (EvW.r (ev_var (i := 7) rfl)) (EvW.r (EvN.ew (en_lst (ea_cons (ev_call (ea_cons (ev_var (i := 0) rfl) (ea_cons (ev_var (i := 6) rfl) ea_nil))) (ea_cons (ev_op ok_ix (EvW.r (ev_split (EvW.r (ev_call (ea_cons (ev_var (i := 0) rfl) (ea_cons (ev_var (i := 2) rfl) ea_nil)))) (EvW.r ev_str))) (EvW.r ev_int)) ea_nil)))))) ea_nil)))) fun words_11 =>
 (blk_ret (EvW.f (ev_join (EvW.r ev_str) (EvW.r (ev_op ok_add (EvW.r (ev_op ok_add (EvW.r (ev_sl (EvW.r (ev_var (i := 3) rfl)) eo_none (eo_some (EvW.r (ev_var (i := 5) rfl))))) (EvW.r (EvN.ew (en_lst (ea_cons (ev_join (EvW.r ev_str) (EvW.r (ev_var (i := 6) rfl))) ea_nil)))))) (EvW.r (ev_sl (EvW.r (ev_var (i := 3) rfl)) (eo_some (EvW.r (ev_op ok_add (EvW.r (ev_var (i := 5) rfl)) (EvW.r ev_int)))) eo_none)))))))))))
 (blk_fin [5, 6, 7] (by rfl))) fun s_7 =>
 (blk_ret (EvW.f (ev_call (ea_cons (ev_var (i := 0) rfl) (ea_cons (ev_var (i := 1) rfl) ea_nil))))))))⟩⟩
noncomputable def m_rows_of (text_1 : U) : M U := fnX (seqO (S := Unit) (iteW (notT (testW (op1 (isiU · "str") (.ret text_1)))) (.bind (.ret (.int 0)) fun u => .ret (.rt (exO "NoText" "row" u))) (nxO ())) fun s_2 => (rtO (op2 splitU (.ret text_1) (.ret (.str "\n")))))
theorem w_rows_of {P : Program} {w : World} {K : PySem.W.Frag} {mg : Str → Option Value} {bs : Heap} (N : En w K mg) : FnOk P w K mg bs (L2.CX P w) 3 (He.ga K "rows_of") N.fd_rows_of ["text"] (spX ⟨K, He.ga K⟩ (L1 m_rows_of)) :=
  fn_okXF N.F_rows_of sc_rows_of (ar1 fun _ => rfl) fun cv A o s H E hr => ⟨_, (pss_cons (ps_if (pt_not (pt_val (pe_callB (call_isiK K) (by rfl) N.m_isinstance (by decide +kernel) (pa_cons (pv 0) (pa_cons (pe_bltn (v := .ty "str") (by rfl) N.m_str (by decide +kernel) rfl) pa_nil)))))
 (pss_one (ps_raise rfl (takes_of rfl rfl rfl rfl) (pmk_oex N.oe_NoText N.ei_NoText.ii N.ei_NoText.ti (w_NoText___init__ N) (hr.mono (by decide)) N.b_NoText___init__ .nil pass0 (by rfl) N.g_NoText (pa_cons pe_int pa_nil))))
 pss_nil)
 (PSs.nox (pss_one (ps_ret (pe_split (pv 0) pe_str))))),
   fun B H0 as0 => ar1 fun text_1 => ⟨_, rfl,
 (blkx_seq (blkx_ifL (S := Unit) (fun s_2 => [some (.im text_1)]) (et_not (et_B (EvW.r (ev_isi (EvW.r (ev_var (i := 0) rfl))))))
 (blkx_raiseO N.oe_NoText N.no_NoText ev_int (weak_fin [0] (by rfl)))
 (Blk.x (blk_fin [] (by rfl)))) fun s_2 =>
 (Blk.x (blk_ret (EvW.f (ev_split (EvW.r (ev_var (i := 0) rfl)) (EvW.r ev_str))))))⟩⟩
noncomputable def m_number_of (word_1 : U) : M U := fnM (seqO (S := Unit) (iteW (orT (notT (testW (chainW leU leU (.ret (.int 1)) (op1 lenSU (.ret word_1)) (.ret (.int 9))))) (notT (testW (op1 allU (lcW (itSW (.ret word_1)) (fun figure_2 => (.ret true)) fun figure_2 => (op2 inTU (.ret figure_2) (.ret (.str "0123456789")))))))) (rtO (.ret U.non)) (nxO ())) fun s_4 => (seqO (S := Unit) (iteW (andT (testW (op2 eqU (op2 ixSU (.ret word_1) (.ret (.int 0))) (.ret (.str "0")))) (testW (op2 neU (.ret word_1) (.ret (.str "0"))))) (rtO (.ret U.non)) (nxO ())) fun s_5 => (rtO (op1 intSU (.ret word_1)))))
theorem w_number_of {P : Program} {w : World} {K : PySem.W.Frag} {mg : Str → Option Value} {bs : Heap} (N : En w K mg) : FnOk P w K mg bs CX0 1 (He.ga K "number_of") N.fd_number_of ["word"] (spM ⟨K, He.ga K⟩ (L1 m_number_of)) :=
  fn_okF N.F_number_of sc_number_of (ar1 fun _ => rfl) fun cv A o s H E hr => ⟨_, PSs.nox (pss_cons (ps_if (PW.pt (pw_or (pt_not (pt_chain op_le op_le pe_int (pe_callB (call_lenS K (by rfl)) (by rfl) N.m_len PySem.boot_len (pa_cons (pv 0) pa_nil)) (pe_glob (v := .int 9) rfl N.k_MOST_FIGURES ⟨_, rfl⟩))) (pw_or1 (pt_not (pt_val (pe_callB (cr_allK K rfl) (by rfl) N.m_all (by decide +kernel) (pa_cons (pe_lc (own := [("figure", 1)]) (by rfl) sc_number_of.nd (pi_str (pv 0)) (blkOk_by (own := [("figure", 1)]) (N := N_number_of) (sc := defScope s_number_of) (by decide +kernel)) (fun _ _ _ _ _ => (pg_name (i := 1) sc_number_of.nd rfl (.inl rfl))) (fun _ _ _ _ _ => pts_nil) (fun _ _ _ _ _ => (pe_cmpR op_in_sign (pv 1) (pe_glob (v := .str "0123456789") rfl N.k_FIGURES ⟨_, rfl⟩) (by rfl)))) pa_nil)))))))
 (pss_one (ps_ret pe_non))
 pss_nil)
 (pss_cons (ps_if (PW.pt (pw_and (pt_cmpR (op_eqK K hr.units) (pe_ix (ix_anyK K) (pv 0) pe_int (fun _ _ => rfl)) pe_str (nomark _)) (pw_and1 (pt_cmpR (op_neK K hr.units) (pv 0) pe_str (nomark _)))))
 (pss_one (ps_ret pe_non))
 pss_nil)
 (pss_one (ps_ret (pe_callTy call_int_str (by rfl) N.m_int (by decide +kernel) (pa_cons (pv 0) pa_nil)))))),
   fun B H0 as0 => ar1 fun word_1 => ⟨_, rfl,
 (blk_seq (blk_ifL (S := Unit) (fun s_4 => [some (.im word_1), none]) (et_or (et_not (et_test (EvW.r (ev_chain ok_le ok_le (EvW.r ev_int) (EvW.r (ev_cb1 ok_lenS (EvW.r (ev_var (i := 0) rfl)))) (EvW.r ev_int))))) (et_not (et_B (EvW.r (ev_cb1 ok_all (EvW.r (EvN.ew (en_lc (by rfl) (src_str (ev_var (i := 0) rfl)) fun figure_2 st r q => ⟨_, tg_name (by decide), et_yes, (ev_op ok_inT (EvW.r (ev_var (i := 1) rfl)) (EvW.r ev_str))⟩))))))))
 (blk_ret (EvW.f ev_non))
 (blk_fin [] (by rfl))) fun s_4 =>
 (blk_seq (blk_ifL (S := Unit) (fun s_5 => [some (.im word_1), none]) (et_and (et_test (EvW.r (ev_op ok_eq (EvW.r (ev_op ok_ixS (EvW.r (ev_var (i := 0) rfl)) (EvW.r ev_int))) (EvW.r ev_str)))) (et_test (EvW.r (ev_op ok_ne (EvW.r (ev_var (i := 0) rfl)) (EvW.r ev_str)))))
 (blk_ret (EvW.f ev_non))
 (blk_fin [] (by rfl))) fun s_5 =>
 (blk_ret (EvW.f (ev_cb1 ok_intS (EvW.r (ev_var (i := 0) rfl)))))))⟩⟩
noncomputable def m_numbers_of (words_1 : U) : M U := fnM (.bind (op1 tupleU (lcW (itW (.ret words_1)) (fun word_5 => (.ret true)) fun word_5 => (callM (L1 m_number_of) (consA (.ret word_5) nilA)))) fun found_4 => (rtO (iteW (testW (op2 inSU (.ret U.non) (.ret found_4))) (.ret U.non) (.ret found_4))))
theorem w_numbers_of {P : Program} {w : World} {K : PySem.W.Frag} {mg : Str → Option Value} {bs : Heap} (N : En w K mg) : FnOk P w K mg bs CX0 2 (He.ga K "numbers_of") N.fd_numbers_of ["words"] (spM ⟨K, He.ga K⟩ (L1 m_numbers_of)) :=
  fn_okF N.F_numbers_of sc_numbers_of (ar1 fun _ => rfl) fun cv A o s H E hr => ⟨_, PSs.nox (pss_cons (ps_set (i := 1) sc_numbers_of.nd rfl (.inl rfl) (pe_callTy (call_tupleK K) (by rfl) N.m_tuple (by decide +kernel) (pa_cons (pe_lc (own := [("word", 2)]) (by rfl) sc_numbers_of.nd (pi_seqK K (pv 0)) (blkOk_by (own := [("word", 2)]) (N := N_numbers_of) (sc := defScope s_numbers_of) (by decide +kernel)) (fun _ _ _ _ _ => (pg_name (i := 2) sc_numbers_of.nd rfl (.inl rfl))) (fun _ _ _ _ _ => pts_nil) (fun _ _ _ _ _ => (pe_call (w_number_of N) (hr.mono (by decide)) (by rfl) N.g_number_of N.F_number_of.kp N.b_number_of .nil pass0 (pa_cons (pv 2) pa_nil)))) pa_nil)))
 (pss_one (ps_ret (pe_ifExp (pt_cmpR (op_inAK K (rm66 hr)) pe_non (pv 1) (by rfl)) pe_non (pv 1))))),
   fun B H0 as0 => ar1 fun words_1 => ⟨_, rfl,
 (blk_set (i := 1) (ev_cb1 ok_tuple (EvW.r (EvN.ew (en_lc (by rfl) (src_it (ev_var (i := 0) rfl)) fun word_5 st r q => ⟨_, tg_name (by decide), et_yes, (ev_call (ea_cons (ev_var (i := 2) rfl) ea_nil))⟩)))) fun found_4 =>
 (blk_ret (EvW.f (ev_if (et_test (EvW.r (ev_op ok_in (EvW.r ev_non) (EvW.r (ev_var (i := 1) rfl))))) ev_non (ev_var (i := 1) rfl)))))⟩⟩
noncomputable def m_numbers_behind (name_1 row_2 size_3 : U) : M U := fnM (.bind (op2 splitU (.ret row_2) (.ret (.str " "))) fun u_6 => unSF u_6 fun first_4 rest_5 => (.bind (callM (L1 m_numbers_of) (consA (.ret rest_5) nilA)) fun found_7 => (seqO (S := Unit) (iteW (orT (testW (op2 neU (.ret first_4) (.ret name_1))) (orT (testW (.bind (.ret found_7) fun a => .ret (.bl (isNU a)))) (andT (testW (.bind (.ret size_3) fun a => .ret (.bl (!isNU a)))) (testW (op2 neU (op1 lenU (.ret found_7)) (.ret size_3)))))) (rtO (.ret U.non)) (nxO ())) fun s_8 => (rtO (.ret found_7)))))
theorem w_numbers_behind {P : Program} {w : World} {K : PySem.W.Frag} {mg : Str → Option Value} {bs : Heap} (N : En w K mg) : FnOk P w K mg bs CX0 3 (He.ga K "numbers_behind") N.fd_numbers_behind ["name", "row", "size"] (spM ⟨K, He.ga K⟩ (L3 m_numbers_behind)) :=
  fn_okF N.F_numbers_behind sc_numbers_behind (ar3 fun _ _ _ => rfl) fun cv A o s H E hr => ⟨_, PSs.nox (pss_cons (ps_asg (pe_split (pv 1) pe_str) (pg_starfirst (i := 3) (j := 4) rfl sc_numbers_behind.nd rfl rfl rfl rfl))
 (pss_cons (ps_set (i := 5) sc_numbers_behind.nd rfl (.inl rfl) (pe_call (w_numbers_of N) (hr.mono (by decide)) (by rfl) N.g_numbers_of N.F_numbers_of.kp N.b_numbers_of .nil pass0 (pa_cons (pv 4) pa_nil)))
 (pss_cons (ps_if (PW.pt (pw_or (pt_cmpR (op_neK K hr.units) (pv 3) (pv 0) (nomark _)) (pw_or (pt_cmpR op_isN (pv 5) pe_non (nomark _)) (pw_or1 (PW.pt (pw_and (pt_cmpR op_notN (pv 2) pe_non (nomark _)) (pw_and1 (pt_cmpR (op_neK K hr.units) (pe_callB (call_lenK K) (by rfl) N.m_len PySem.boot_len (pa_cons (pv 5) pa_nil)) (pv 2) (nomark _)))))))))
 (pss_one (ps_ret pe_non))
 pss_nil)
 (pss_one (ps_ret (pv 5)))))),
   fun B H0 as0 => ar3 fun name_1 row_2 size_3 => ⟨_, rfl,
 (blk_starF (i := 3) (j := 4) (ev_split (EvW.r (ev_var (i := 1) rfl)) (EvW.r ev_str)) fun first_4 rest_5 =>
 (blk_set (i := 5) (ev_call (ea_cons (ev_var (i := 4) rfl) ea_nil)) fun found_7 =>
 (blk_seq (blk_ifL (S := Unit) (fun s_8 => [some (.im name_1), some (.im row_2), some (.im size_3), some (.im first_4), some (.im rest_5), some (.im found_7)]) (et_or (et_test (EvW.r (ev_op ok_ne (EvW.r (ev_var (i := 3) rfl)) (EvW.r (ev_var (i := 0) rfl))))) (et_or (et_test (EvW.r (ev_isN (EvW.r (ev_var (i := 5) rfl))))) (et_and (et_test (EvW.r (ev_notN (EvW.r (ev_var (i := 2) rfl))))) (et_test (EvW.r (ev_op ok_ne (EvW.r (ev_cb1 ok_len (EvW.r (ev_var (i := 5) rfl)))) (EvW.r (ev_var (i := 2) rfl))))))))
 (blk_ret (EvW.f ev_non))
 (blk_fin [] (by rfl))) fun s_8 =>
 (blk_ret (EvW.f (ev_var (i := 5) rfl))))))⟩⟩
noncomputable def m_place_in_game (row_1 : U) : M U := fnM (rtO (callKM 2 1 (L3 m_numbers_behind) (consA (.ret (.str "place")) (consA (.ret row_1) nilA)) (consA (.ret (.int 2)) nilA)))
theorem w_place_in_game {P : Program} {w : World} {K : PySem.W.Frag} {mg : Str → Option Value} {bs : Heap} (N : En w K mg) : FnOk P w K mg bs CX0 4 (He.ga K "place_in_game") N.fd_place_in_game ["row"] (spM ⟨K, He.ga K⟩ (L1 m_place_in_game)) :=
  fn_okF N.F_place_in_game sc_place_in_game (ar1 fun _ => rfl) fun cv A o s H E hr => ⟨_, PSs.nox (pss_one (ps_ret (pe_callN (w_numbers_behind N) (hr.mono (by decide)) (by rfl) N.g_numbers_behind N.F_numbers_behind.kp N.kb_numbers_behind pass0 (pa_cons pe_str (pa_cons (pv 0) pa_nil)) (pk_cons pe_int pk_nil)))),
   fun B H0 as0 => ar1 fun row_1 => ⟨_, rfl,
 (blk_ret (EvW.f (ev_callK (ea_cons ev_str (ea_cons (ev_var (i := 0) rfl) ea_nil)) (ea_cons ev_int ea_nil))))⟩⟩
noncomputable def m_way_in_game (row_1 : U) : M U := fnM (rtO (callKM 2 1 (L3 m_numbers_behind) (consA (.ret (.str "way")) (consA (.ret row_1) nilA)) (consA (.ret (.int 2)) nilA)))
theorem w_way_in_game {P : Program} {w : World} {K : PySem.W.Frag} {mg : Str → Option Value} {bs : Heap} (N : En w K mg) : FnOk P w K mg bs CX0 4 (He.ga K "way_in_game") N.fd_way_in_game ["row"] (spM ⟨K, He.ga K⟩ (L1 m_way_in_game)) :=
  fn_okF N.F_way_in_game sc_way_in_game (ar1 fun _ => rfl) fun cv A o s H E hr => ⟨_, PSs.nox (pss_one (ps_ret (pe_callN (w_numbers_behind N) (hr.mono (by decide)) (by rfl) N.g_numbers_behind N.F_numbers_behind.kp N.kb_numbers_behind pass0 (pa_cons pe_str (pa_cons (pv 0) pa_nil)) (pk_cons pe_int pk_nil)))),
   fun B H0 as0 => ar1 fun row_1 => ⟨_, rfl,
 (blk_ret (EvW.f (ev_callK (ea_cons ev_str (ea_cons (ev_var (i := 0) rfl) ea_nil)) (ea_cons ev_int ea_nil))))⟩⟩
noncomputable def m_taken (rows_1 at_2 read_3 : U) : M U := fnM (.bind (lstW nilA) fun found_4 => (seqO (S := U × U) (whileO (fun s_5 => (andT (testW (op2 ltU (.ret s_5.1) (op1 lenU (.ret rows_1)))) (testW (.bind (callJM [("place_in_game", L1 m_place_in_game), ("way_in_game", L1 m_way_in_game)] read_3 (consA (op2 ixU (.ret rows_1) (.ret s_5.1)) nilA)) fun a => .ret (.bl (!isNU a)))))) (fun s_5 => (.bindS (.bind (.ret (s_5.2, id)) fun h => .bind (consA (callJM [("place_in_game", L1 m_place_in_game), ("way_in_game", L1 m_way_in_game)] read_3 (consA (op2 ixU (.ret rows_1) (.ret s_5.1)) nilA)) nilA) fun xs => .o (mutL appL h xs)) fun found_6 => (.bind (.ret (.int 1)) fun y => .bind (.o (addIU s_5.1 y)) fun at_7 => (nxO (at_7, found_6))))) (at_2, found_4)) fun s_5 => (rtO (tupW (consA (op1 tupleU (.ret s_5.2)) (consA (.ret s_5.1) nilA))))))
theorem w_taken {P : Program} {w : World} {K : PySem.W.Frag} {mg : Str → Option Value} {bs : Heap} (N : En w K mg) : FnOk P w K mg bs CX0 5 (He.ga K "taken") N.fd_taken ["rows", "at", "read"] (spM ⟨K, He.ga K⟩ (L3 m_taken)) :=
  fn_okF N.F_taken sc_taken (ar3 fun _ _ _ => rfl) fun cv A o s H E hr => ⟨_, PSs.nox (pss_cons (ps_set (i := 3) sc_taken.nd rfl (.inl rfl) (pe_lst pa_nil))
 (pss_cons (ps_while PassesOwn.never (PW.pt (pw_and (pt_cmpR (op_ltK K hr.units) (pv 1) (pe_callB (call_lenK K) (by rfl) N.m_len PySem.boot_len (pa_cons (pv 0) pa_nil)) (nomark _)) (pw_and1 (pt_cmpR op_notN (pe_callJ (callJ_cons (pe_callL (i := 2) (w_place_in_game N) (hr.mono (by decide)) rfl (by first | exact Or.inl rfl | exact Or.inr (Or.inl rfl) | exact Or.inr (Or.inr rfl)) N.F_place_in_game.kp N.b_place_in_game .nil pass0 (pa_cons (pe_ix (ix_seqK K) (pv 0) (pv 1) (fun _ _ => rfl)) pa_nil)) (callJ_cons (pe_callL (i := 2) (w_way_in_game N) (hr.mono (by decide)) rfl (by first | exact Or.inl rfl | exact Or.inr (Or.inl rfl) | exact Or.inr (Or.inr rfl)) N.F_way_in_game.kp N.b_way_in_game .nil pass0 (pa_cons (pe_ix (ix_seqK K) (pv 0) (pv 1) (fun _ _ => rfl)) pa_nil)) callJ_nil))) pe_non (nomark _)))))
 (pss_cons (ps_expr (pe_bm PySem.F.plainAttrs_list PySem.F.slot_list_append PySem.F.type_list_append mt_append (pv 3) (pa_cons (pe_callJ (callJ_cons (pe_callL (i := 2) (w_place_in_game N) (hr.mono (by decide)) rfl (by first | exact Or.inl rfl | exact Or.inr (Or.inl rfl) | exact Or.inr (Or.inr rfl)) N.F_place_in_game.kp N.b_place_in_game .nil pass0 (pa_cons (pe_ix (ix_seqK K) (pv 0) (pv 1) (fun _ _ => rfl)) pa_nil)) (callJ_cons (pe_callL (i := 2) (w_way_in_game N) (hr.mono (by decide)) rfl (by first | exact Or.inl rfl | exact Or.inr (Or.inl rfl) | exact Or.inr (Or.inr rfl)) N.F_way_in_game.kp N.b_way_in_game .nil pass0 (pa_cons (pe_ix (ix_seqK K) (pv 0) (pv 1) (fun _ _ => rfl)) pa_nil)) callJ_nil))) pa_nil)))
 (pss_one (ps_aug (i := 1) sc_taken.nd rfl (.inl rfl) pe_int ip_add))))
 (pss_one (ps_ret (pe_tup (pa_cons (pe_callTy (call_tupleK K) (by rfl) N.m_tuple (by decide +kernel) (pa_cons (pv 3) pa_nil)) (pa_cons (pv 1) pa_nil))))))),
   fun B H0 as0 => ar3 fun rows_1 at_2 read_3 => ⟨_, rfl,
 (blk_own (i := 3) (en_lst ea_nil) fun found_4 =>
 (blk_seq (blk_whileL (S := U × U) [] (fun s_5 => [some (.im rows_1), some (.im s_5.1), some (.im read_3), some (.own (.lst .leaf) s_5.2)]) (by rfl) (fun s_5 => (et_and (et_test (EvW.r (ev_op ok_lt (EvW.r (ev_var (i := 1) rfl)) (EvW.r (ev_cb1 ok_len (EvW.r (ev_var (i := 0) rfl))))))) (et_test (EvW.r (ev_notN (EvW.r (ev_callJ (i := 2) rfl (ea_cons (ev_op ok_ix (EvW.r (ev_var (i := 0) rfl)) (EvW.r (ev_var (i := 1) rfl))) ea_nil))))))))
 (fun s_5 => (blk_x2 (ex_mut mut_app (eh_slot (i := 3) rfl) (ea_cons (ev_callJ (i := 2) rfl (ea_cons (ev_op ok_ix (EvW.r (ev_var (i := 0) rfl)) (EvW.r (ev_var (i := 1) rfl))) ea_nil)) ea_nil)) fun found_6 =>
 (blk_last (blk_aug (i := 1) ip_okAdd rfl ev_int fun at_7 =>
 (blk_fin [] (by rfl))))))) fun s_5 =>
 (blk_ret (ef_tup (eaf_cons (EvW.f (ev_cb1 ok_tuple (ev_ownL (i := 3) rfl))) (eaf_cons (EvW.f (ev_var (i := 1) rfl)) eaf_nil))))))⟩⟩
noncomputable def m_check_end (rows_1 at_2 : U) : M U := fnX (iteW (testW (op2 ltU (.ret at_2) (op1 lenU (.ret rows_1)))) (.bind (.ret at_2) fun u => .ret (.rt (exO "NoText" "row" u))) (nxO ()))
theorem w_check_end {P : Program} {w : World} {K : PySem.W.Frag} {mg : Str → Option Value} {bs : Heap} (N : En w K mg) : FnOk P w K mg bs (L2.CX P w) 3 (He.ga K "check_end") N.fd_check_end ["rows", "at"] (spX ⟨K, He.ga K⟩ (L2' m_check_end)) :=
  fn_okXF N.F_check_end sc_check_end (ar2 fun _ _ => rfl) fun cv A o s H E hr => ⟨_, (pss_one (ps_if (pt_cmpR (op_ltK K hr.units) (pv 1) (pe_callB (call_lenK K) (by rfl) N.m_len PySem.boot_len (pa_cons (pv 0) pa_nil)) (nomark _))
 (pss_one (ps_raise rfl (takes_of rfl rfl rfl rfl) (pmk_oex N.oe_NoText N.ei_NoText.ii N.ei_NoText.ti (w_NoText___init__ N) (hr.mono (by decide)) N.b_NoText___init__ .nil pass0 (by rfl) N.g_NoText (pa_cons (pv 1) pa_nil))))
 pss_nil)),
   fun B H0 as0 => ar2 fun rows_1 at_2 => ⟨_, rfl,
 (blkx_if (et_test (EvW.r (ev_op ok_lt (EvW.r (ev_var (i := 1) rfl)) (EvW.r (ev_cb1 ok_len (EvW.r (ev_var (i := 0) rfl)))))))
 (blkx_raiseO N.oe_NoText N.no_NoText (ev_var (i := 1) rfl) (weak_fin [0, 1] (by rfl)))
 (Blk.x (blk_fin [0, 1] (by rfl))))⟩⟩
noncomputable def m_is_whole (thing_1 : U) : M U := fnM (rtO (andW (op1 (isiU · "int") (.ret thing_1)) (op1 notU (op1 (isiU · "bool") (.ret thing_1)))))
theorem w_is_whole {P : Program} {w : World} {K : PySem.W.Frag} {mg : Str → Option Value} {bs : Heap} (N : En w K mg) : FnOk P w K mg bs CX0 1 (He.ga K "is_whole") N.fd_is_whole ["thing"] (spM ⟨K, He.ga K⟩ (L1 m_is_whole)) :=
  fn_okF N.F_is_whole sc_is_whole (ar1 fun _ => rfl) fun cv A o s H E hr => ⟨_, PSs.nox (pss_one (ps_ret (pe_and (pe_callB (call_isiK K) (by rfl) N.m_isinstance (by decide +kernel) (pa_cons (pv 0) (pa_cons (pe_bltn (v := .ty "int") (by rfl) N.m_int (by decide +kernel) rfl) pa_nil))) (pe_one (pe_not (pe_callB (call_isiK K) (by rfl) N.m_isinstance (by decide +kernel) (pa_cons (pv 0) (pa_cons (pe_bltn (v := .ty "bool") (by rfl) N.m_bool (by decide +kernel) rfl) pa_nil)))))))),
   fun B H0 as0 => ar1 fun thing_1 => ⟨_, rfl,
 (blk_ret (EvW.f (ev_and (EvW.r (ev_isi (EvW.r (ev_var (i := 0) rfl)))) (ev_not (EvW.r (ev_isi (EvW.r (ev_var (i := 0) rfl))))))))⟩⟩
noncomputable def m_is_below (thing_1 many_2 : U) : M U := fnM (rtO (andW (callM (L1 m_is_whole) (consA (.ret thing_1) nilA)) (chainW leU ltU (.ret (.int 0)) (.ret thing_1) (.ret many_2))))
theorem w_is_below {P : Program} {w : World} {K : PySem.W.Frag} {mg : Str → Option Value} {bs : Heap} (N : En w K mg) : FnOk P w K mg bs CX0 2 (He.ga K "is_below") N.fd_is_below ["thing", "many"] (spM ⟨K, He.ga K⟩ (L2' m_is_below)) :=
  fn_okF N.F_is_below sc_is_below (ar2 fun _ _ => rfl) fun cv A o s H E hr => ⟨_, PSs.nox (pss_one (ps_ret (pe_and (pe_call (w_is_whole N) (hr.mono (by decide)) (by rfl) N.g_is_whole N.F_is_whole.kp N.b_is_whole .nil pass0 (pa_cons (pv 0) pa_nil)) (pe_one (pe_chain op_le (op_ltK K hr.units) pe_int (pv 0) (pv 1)))))),
   fun B H0 as0 => ar2 fun thing_1 many_2 => ⟨_, rfl,
 (blk_ret (EvW.f (ev_and (EvW.r (ev_call (ea_cons (ev_var (i := 0) rfl) ea_nil))) (ev_chain ok_le ok_lt (EvW.r ev_int) (EvW.r (ev_var (i := 0) rfl)) (EvW.r (ev_var (i := 1) rfl))))))⟩⟩
noncomputable def m_are_below (thing_1 many_2 bound_3 : U) : M U := fnM (rtO (andW (op1 (isiU · "tuple") (.ret thing_1)) (andW (op2 eqU (op1 lenU (.ret thing_1)) (.ret many_2)) (op1 allU (lcW (itW (.ret thing_1)) (fun one_4 => (.ret true)) fun one_4 => (callM (L2' m_is_below) (consA (.ret one_4) (consA (.ret bound_3) nilA))))))))
theorem w_are_below {P : Program} {w : World} {K : PySem.W.Frag} {mg : Str → Option Value} {bs : Heap} (N : En w K mg) : FnOk P w K mg bs CX0 3 (He.ga K "are_below") N.fd_are_below ["thing", "many", "bound"] (spM ⟨K, He.ga K⟩ (L3 m_are_below)) :=
  fn_okF N.F_are_below sc_are_below (ar3 fun _ _ _ => rfl) fun cv A o s H E hr => ⟨_, PSs.nox (pss_one (ps_ret (pe_and (pe_callB (call_isiK K) (by rfl) N.m_isinstance (by decide +kernel) (pa_cons (pv 0) (pa_cons (pe_bltn (v := .ty "tuple") (by rfl) N.m_tuple (by decide +kernel) rfl) pa_nil))) (pe_and (pe_cmpR (op_eqK K hr.units) (pe_callB (call_lenK K) (by rfl) N.m_len PySem.boot_len (pa_cons (pv 0) pa_nil)) (pv 1) (nomark _)) (pe_one (pe_callB (cr_allK K rfl) (by rfl) N.m_all (by decide +kernel) (pa_cons (pe_lc (own := [("one", 3)]) (by rfl) sc_are_below.nd (pi_seqK K (pv 0)) (blkOk_by (own := [("one", 3)]) (N := N_are_below) (sc := defScope s_are_below) (by decide +kernel)) (fun _ _ _ _ _ => (pg_name (i := 3) sc_are_below.nd rfl (.inl rfl))) (fun _ _ _ _ _ => pts_nil) (fun _ _ _ _ _ => (pe_call (w_is_below N) (hr.mono (by decide)) (by rfl) N.g_is_below N.F_is_below.kp N.b_is_below .nil pass0 (pa_cons (pv 3) (pa_cons (pv 2) pa_nil))))) pa_nil))))))),
   fun B H0 as0 => ar3 fun thing_1 many_2 bound_3 => ⟨_, rfl,
 (blk_ret (EvW.f (ev_and (EvW.r (ev_isi (EvW.r (ev_var (i := 0) rfl)))) (ev_and (EvW.r (ev_op ok_eq (EvW.r (ev_cb1 ok_len (EvW.r (ev_var (i := 0) rfl)))) (EvW.r (ev_var (i := 1) rfl)))) (ev_cb1 ok_all (EvW.r (EvN.ew (en_lc (by rfl) (src_it (ev_var (i := 0) rfl)) fun one_4 st r q => ⟨_, tg_name (by decide), et_yes, (ev_call (ea_cons (ev_var (i := 3) rfl) (ea_cons (ev_var (i := 2) rfl) ea_nil)))⟩))))))))⟩⟩
noncomputable def m_are_owners (thing_1 : U) : M U := fnM (rtO (andW (op1 (isiU · "tuple") (.ret thing_1)) (andW (op2 gtU (op1 lenU (.ret thing_1)) (.ret (.int 0))) (callM (L3 m_are_below) (consA (.ret thing_1) (consA (op1 lenU (.ret thing_1)) (consA (.ret (.int 2)) nilA)))))))
theorem w_are_owners {P : Program} {w : World} {K : PySem.W.Frag} {mg : Str → Option Value} {bs : Heap} (N : En w K mg) : FnOk P w K mg bs CX0 4 (He.ga K "are_owners") N.fd_are_owners ["thing"] (spM ⟨K, He.ga K⟩ (L1 m_are_owners)) :=
  fn_okF N.F_are_owners sc_are_owners (ar1 fun _ => rfl) fun cv A o s H E hr => ⟨_, PSs.nox (pss_one (ps_ret (pe_and (pe_callB (call_isiK K) (by rfl) N.m_isinstance (by decide +kernel) (pa_cons (pv 0) (pa_cons (pe_bltn (v := .ty "tuple") (by rfl) N.m_tuple (by decide +kernel) rfl) pa_nil))) (pe_and (pe_cmpR op_gt (pe_callB (call_lenK K) (by rfl) N.m_len PySem.boot_len (pa_cons (pv 0) pa_nil)) pe_int (nomark _)) (pe_one (pe_call (w_are_below N) (hr.mono (by decide)) (by rfl) N.g_are_below N.F_are_below.kp N.b_are_below .nil pass0 (pa_cons (pv 0) (pa_cons (pe_callB (call_lenK K) (by rfl) N.m_len PySem.boot_len (pa_cons (pv 0) pa_nil)) (pa_cons (pe_glob (v := .int 2) rfl N.k_SIDES ⟨_, rfl⟩) pa_nil))))))))),
   fun B H0 as0 => ar1 fun thing_1 => ⟨_, rfl,
 (blk_ret (EvW.f (ev_and (EvW.r (ev_isi (EvW.r (ev_var (i := 0) rfl)))) (ev_and (EvW.r (ev_op ok_gt (EvW.r (ev_cb1 ok_len (EvW.r (ev_var (i := 0) rfl)))) (EvW.r ev_int))) (ev_call (ea_cons (ev_var (i := 0) rfl) (ea_cons (ev_cb1 ok_len (EvW.r (ev_var (i := 0) rfl))) (ea_cons ev_int ea_nil))))))))⟩⟩
noncomputable def m_are_rising (some_1 : U) : M U := fnM (rtO (op1 allU (lcW (zipW (.ret some_1) (slW (.ret some_1) (someP (.ret (.int 1))) noP)) (fun e_4 => un2 e_4 fun one_2 other_3 => (.ret true)) fun e_4 => un2 e_4 fun one_2 other_3 => (op2 ltU (.ret one_2) (.ret other_3)))))
theorem w_are_rising {P : Program} {w : World} {K : PySem.W.Frag} {mg : Str → Option Value} {bs : Heap} (N : En w K mg) : FnOk P w K mg bs CX0 1 (He.ga K "are_rising") N.fd_are_rising ["some"] (spM ⟨K, He.ga K⟩ (L1 m_are_rising)) :=
  fn_okF N.F_are_rising sc_are_rising (ar1 fun _ => rfl) fun cv A o s H E hr => ⟨_, PSs.nox (pss_one (ps_ret (pe_callB (cr_allK K rfl) (by rfl) N.m_all (by decide +kernel) (pa_cons (pe_lc (own := [("one", 1), ("other", 2)]) (by rfl) sc_are_rising.nd (pi_zipAK K (by rfl) N.m_zip (pa_cons (pv 0) (pa_cons (pe_slice (sl_seqK K) (pv 0) (po_some pe_int) po_none) pa_nil))) (blkOk_by (own := [("one", 1), ("other", 2)]) (N := N_are_rising) (sc := defScope s_are_rising) (by decide +kernel)) (fun _ _ _ _ _ => (pg_tupK K (n := 2) rfl (pgs_cons (pg_name (i := 1) sc_are_rising.nd rfl (.inl rfl)) (pgs_cons (pg_name (i := 2) sc_are_rising.nd rfl (.inl rfl)) pgs_nil)))) (fun _ _ _ _ _ => pts_nil) (fun _ _ _ _ _ => (pe_cmpR (op_ltK K hr.units) (pv 1) (pv 2) (nomark _)))) pa_nil)))),
   fun B H0 as0 => ar1 fun some_1 => ⟨_, rfl,
 (blk_ret (EvW.f (ev_cb1 ok_all (EvW.r (EvN.ew (en_lc (by rfl) (src_zip (ev_var (i := 0) rfl) (ev_sl (EvW.r (ev_var (i := 0) rfl)) (eo_some (EvW.r ev_int)) eo_none)) (lcp2 (i := 1) (j := 2) (vs := [1, 2]) (by decide) (by decide) fun one_2 other_3 => ⟨et_yes, (ev_op ok_lt (EvW.r (ev_var (i := 1) rfl)) (EvW.r (ev_var (i := 2) rfl)))⟩)))))))⟩⟩
noncomputable def m_are_ways (thing_1 many_2 : U) : M U := fnM (seqO (S := Unit) (iteW (orT (notT (testW (op1 (isiU · "tuple") (.ret thing_1)))) (notT (testW (op1 allU (lcW (itW (.ret thing_1)) (fun way_3 => (.ret true)) fun way_3 => (callM (L3 m_are_below) (consA (.ret way_3) (consA (.ret (.int 2)) (consA (.ret many_2) nilA))))))))) (rtO (.ret (U.bl false))) (nxO ())) fun s_5 => (seqO (S := Unit) (iteW (notT (testW (callM (L1 m_are_rising) (consA (.ret thing_1) nilA)))) (rtO (.ret (U.bl false))) (nxO ())) fun s_6 => (rtO (op2 eqU (op1 lenDU (lcW (itW (.ret thing_1)) (fun e_9 => un2 e_9 fun start_7 end_8 => (.ret true)) fun e_9 => un2 e_9 fun start_7 end_8 => (.ret start_7))) (.ret many_2)))))
theorem w_are_ways {P : Program} {w : World} {K : PySem.W.Frag} {mg : Str → Option Value} {bs : Heap} (N : En w K mg) : FnOk P w K mg bs CX0 4 (He.ga K "are_ways") N.fd_are_ways ["thing", "many"] (spM ⟨K, He.ga K⟩ (L2' m_are_ways)) :=
  fn_okF N.F_are_ways sc_are_ways (ar2 fun _ _ => rfl) fun cv A o s H E hr => ⟨_, PSs.nox (pss_cons (ps_if (PW.pt (pw_or (pt_not (pt_val (pe_callB (call_isiK K) (by rfl) N.m_isinstance (by decide +kernel) (pa_cons (pv 0) (pa_cons (pe_bltn (v := .ty "tuple") (by rfl) N.m_tuple (by decide +kernel) rfl) pa_nil))))) (pw_or1 (pt_not (pt_val (pe_callB (cr_allK K rfl) (by rfl) N.m_all (by decide +kernel) (pa_cons (pe_lc (own := [("way", 2)]) (by rfl) sc_are_ways.nd (pi_seqK K (pv 0)) (blkOk_by (own := [("way", 2)]) (N := N_are_ways) (sc := defScope s_are_ways) (by decide +kernel)) (fun _ _ _ _ _ => (pg_name (i := 2) sc_are_ways.nd rfl (.inl rfl))) (fun _ _ _ _ _ => pts_nil) (fun _ _ _ _ _ => (pe_call (w_are_below N) (hr.mono (by decide)) (by rfl) N.g_are_below N.F_are_below.kp N.b_are_below .nil pass0 (pa_cons (pv 2) (pa_cons pe_int (pa_cons (pv 1) pa_nil)))))) pa_nil)))))))
 (pss_one (ps_ret pe_bl))
 pss_nil)
 (pss_cons (ps_if (pt_not (pt_val (pe_call (w_are_rising N) (hr.mono (by decide)) (by rfl) N.g_are_rising N.F_are_rising.kp N.b_are_rising .nil pass0 (pa_cons (pv 0) pa_nil))))
 (pss_one (ps_ret pe_bl))
 pss_nil)
 (pss_one (ps_ret (pe_cmpR (op_eqK K hr.units) (pe_callB (cr_lenSetK w) (by rfl) N.m_len (by decide +kernel) (pa_cons (pe_sci (own := [("start", 3), ("end", 4)]) (by rfl) sc_are_ways.nd (pi_seqK K (pv 0)) (blkOk_by (own := [("start", 3), ("end", 4)]) (N := N_are_ways) (sc := defScope s_are_ways) (by decide +kernel)) (fun _ _ _ _ _ => (pg_tupK K (n := 2) rfl (pgs_cons (pg_name (i := 3) sc_are_ways.nd rfl (.inl rfl)) (pgs_cons (pg_name (i := 4) sc_are_ways.nd rfl (.inl rfl)) pgs_nil)))) (fun _ _ _ _ _ => pts_nil) (fun _ _ _ _ _ => (pv 3))) pa_nil)) (pv 1) (nomark _)))))),
   fun B H0 as0 => ar2 fun thing_1 many_2 => ⟨_, rfl,
 (blk_seq (blk_ifL (S := Unit) (fun s_5 => [some (.im thing_1), some (.im many_2), none, none, none]) (et_or (et_not (et_B (EvW.r (ev_isi (EvW.r (ev_var (i := 0) rfl)))))) (et_not (et_B (EvW.r (ev_cb1 ok_all (EvW.r (EvN.ew (en_lc (by rfl) (src_it (ev_var (i := 0) rfl)) fun way_3 st r q => ⟨_, tg_name (by decide), et_yes, (ev_call (ea_cons (ev_var (i := 2) rfl) (ea_cons ev_int (ea_cons (ev_var (i := 1) rfl) ea_nil))))⟩))))))))
 (blk_ret (EvW.f ev_bl))
 (blk_fin [] (by rfl))) fun s_5 =>
 (blk_seq (blk_ifL (S := Unit) (fun s_6 => [some (.im thing_1), some (.im many_2), none, none, none]) (et_not (et_B (EvW.r (ev_call (ea_cons (ev_var (i := 0) rfl) ea_nil)))))
 (blk_ret (EvW.f ev_bl))
 (blk_fin [] (by rfl))) fun s_6 =>
 (blk_ret (EvW.f (ev_op ok_eq (EvW.r (ev_lenSc (by rfl) (src_it (ev_var (i := 0) rfl)) (lcp2 (i := 3) (j := 4) (vs := [3, 4]) (by decide) (by decide) fun start_7 end_8 => ⟨et_yes, (ev_var (i := 3) rfl)⟩))) (EvW.r (ev_var (i := 1) rfl)))))))⟩⟩
noncomputable def m_fault_of (owners_1 ranks_2 ways_3 : U) : M U := fnM (seqO (S := Unit) (iteW (notT (testW (callM (L1 m_are_owners) (consA (.ret owners_1) nilA)))) (rtO (.ret (.str "owners"))) (nxO ())) fun s_4 => (seqO (S := Unit) (iteW (notT (testW (callM (L3 m_are_below) (consA (.ret ranks_2) (consA (op1 lenU (.ret owners_1)) (consA (.ret (.int 10)) nilA)))))) (rtO (.ret (.str "ranks"))) (nxO ())) fun s_5 => (seqO (S := Unit) (iteW (notT (testW (callM (L2' m_are_ways) (consA (.ret ways_3) (consA (op1 lenU (.ret owners_1)) nilA))))) (rtO (.ret (.str "ways"))) (nxO ())) fun s_6 => (rtO (.ret U.non)))))
theorem w_fault_of {P : Program} {w : World} {K : PySem.W.Frag} {mg : Str → Option Value} {bs : Heap} (N : En w K mg) : FnOk P w K mg bs CX0 5 (He.ga K "fault_of") N.fd_fault_of ["owners", "ranks", "ways"] (spM ⟨K, He.ga K⟩ (L3 m_fault_of)) :=
  fn_okF N.F_fault_of sc_fault_of (ar3 fun _ _ _ => rfl) fun cv A o s H E hr => ⟨_, PSs.nox (pss_cons (ps_if (pt_not (pt_val (pe_call (w_are_owners N) (hr.mono (by decide)) (by rfl) N.g_are_owners N.F_are_owners.kp N.b_are_owners .nil pass0 (pa_cons (pv 0) pa_nil))))
 (pss_one (ps_ret pe_str))
 pss_nil)
 (pss_cons (ps_if (pt_not (pt_val (pe_call (w_are_below N) (hr.mono (by decide)) (by rfl) N.g_are_below N.F_are_below.kp N.b_are_below .nil pass0 (pa_cons (pv 1) (pa_cons (pe_callB (call_lenK K) (by rfl) N.m_len PySem.boot_len (pa_cons (pv 0) pa_nil)) (pa_cons (pe_glob (v := .int 10) rfl N.k_RANKS ⟨_, rfl⟩) pa_nil))))))
 (pss_one (ps_ret pe_str))
 pss_nil)
 (pss_cons (ps_if (pt_not (pt_val (pe_call (w_are_ways N) (hr.mono (by decide)) (by rfl) N.g_are_ways N.F_are_ways.kp N.b_are_ways .nil pass0 (pa_cons (pv 2) (pa_cons (pe_callB (call_lenK K) (by rfl) N.m_len PySem.boot_len (pa_cons (pv 0) pa_nil)) pa_nil)))))
 (pss_one (ps_ret pe_str))
 pss_nil)
 (pss_one (ps_ret pe_non))))),
   fun B H0 as0 => ar3 fun owners_1 ranks_2 ways_3 => ⟨_, rfl,
 (blk_seq (blk_ifL (S := Unit) (fun s_4 => [some (.im owners_1), some (.im ranks_2), some (.im ways_3)]) (et_not (et_B (EvW.r (ev_call (ea_cons (ev_var (i := 0) rfl) ea_nil)))))
 (blk_ret (EvW.f ev_str))
 (blk_fin [] (by rfl))) fun s_4 =>
 (blk_seq (blk_ifL (S := Unit) (fun s_5 => [some (.im owners_1), some (.im ranks_2), some (.im ways_3)]) (et_not (et_B (EvW.r (ev_call (ea_cons (ev_var (i := 1) rfl) (ea_cons (ev_cb1 ok_len (EvW.r (ev_var (i := 0) rfl))) (ea_cons ev_int ea_nil)))))))
 (blk_ret (EvW.f ev_str))
 (blk_fin [] (by rfl))) fun s_5 =>
 (blk_seq (blk_ifL (S := Unit) (fun s_6 => [some (.im owners_1), some (.im ranks_2), some (.im ways_3)]) (et_not (et_B (EvW.r (ev_call (ea_cons (ev_var (i := 2) rfl) (ea_cons (ev_cb1 ok_len (EvW.r (ev_var (i := 0) rfl))) ea_nil))))))
 (blk_ret (EvW.f ev_str))
 (blk_fin [] (by rfl))) fun s_6 =>
 (blk_ret (EvW.f ev_non)))))⟩⟩
noncomputable def m_Game___init__ (self_1 owners_2 ranks_3 ways_4 : U) : M U := fnX (seqO (S := U) (.bind (callM (L3 m_fault_of) (consA (.ret owners_2) (consA (.ret ranks_3) (consA (.ret ways_4) nilA)))) fun why_6 => (nxO why_6)) fun s_5 => (seqO (S := Unit) (iteW (testW (.bind (.ret s_5) fun a => .ret (.bl (!isNU a)))) (.bind (.ret s_5) fun u => .ret (.rt (exO "NoGame" "why" u))) (nxO ())) fun s_7 => (.bind (.bind (.ret owners_2) fun u => .o (leafO u)) fun x => .bind (locM self_1) fun c => .bind (.o (newF ["Game"] "owners" c x)) fun u => .bind (putC c.1 u) fun _ => (.bind (.bind (.ret ranks_3) fun u => .o (leafO u)) fun x => .bind (locM self_1) fun c => .bind (.o (newF ["Game"] "ranks" c x)) fun u => .bind (putC c.1 u) fun _ => (.bind (.bind (.ret ways_4) fun u => .o (leafO u)) fun x => .bind (locM self_1) fun c => .bind (.o (newF ["Game"] "ways" c x)) fun u => .bind (putC c.1 u) fun _ => (nxO ()))))))
theorem w_Game___init__ {P : Program} {w : World} {K : PySem.W.Frag} {mg : Str → Option Value} {bs : Heap} (N : En w K mg) : FnOk P w K mg bs (L2.CX P w) 6 (He.ma K (He.ga K "Game") "__init__") N.fd_Game___init__ ["self", "owners", "ranks", "ways"] (spX ⟨K, He.ga K⟩ (L4 m_Game___init__)) :=
  fn_okXF N.F_Game___init__ sc_Game___init__ (ar4 fun _ _ _ _ => rfl) fun cv A o s H E hr => ⟨_, (pss_cons (ps_set (i := 4) sc_Game___init__.nd rfl (.inl rfl) (pe_call (w_fault_of N) (hr.mono (by decide)) (by rfl) N.g_fault_of N.F_fault_of.kp N.b_fault_of .nil pass0 (pa_cons (pv 1) (pa_cons (pv 2) (pa_cons (pv 3) pa_nil)))))
 (pss_cons (ps_if (pt_cmpR op_notN (pv 4) pe_non (nomark _))
 (pss_one (ps_raise rfl (takes_of rfl rfl rfl rfl) (pmk_oex N.oe_NoGame N.ei_NoGame.ii N.ei_NoGame.ti (w_NoGame___init__ N) (hr.mono (by decide)) N.b_NoGame___init__ .nil pass0 (by rfl) N.g_NoGame (pa_cons (pv 4) pa_nil))))
 pss_nil)
 (PSs.nox (pss_cons (ps_fld (pv 0) (pv 1) rfl)
 (pss_cons (ps_fld (pv 0) (pv 2) rfl)
 (pss_one (ps_fld (pv 0) (pv 3) rfl))))))),
   fun B H0 as0 => ar4 fun self_1 owners_2 ranks_3 ways_4 => ⟨_, rfl,
 (blkx_seq (δ1 := (fun s_5 => [some (.im self_1), some (.im owners_2), some (.im ranks_3), some (.im ways_4), some (.im s_5)])) (Blk.x (blk_last (blk_set (i := 4) (ev_call (ea_cons (ev_var (i := 1) rfl) (ea_cons (ev_var (i := 2) rfl) (ea_cons (ev_var (i := 3) rfl) ea_nil)))) fun why_6 =>
 (blk_fin [] (by rfl))))) fun s_5 =>
 (blkx_seq (blkx_ifL (S := Unit) (fun s_7 => [some (.im self_1), some (.im owners_2), some (.im ranks_3), some (.im ways_4), some (.im s_5)]) (et_test (EvW.r (ev_notN (EvW.r (ev_var (i := 4) rfl)))))
 (blkx_raiseO N.oe_NoGame N.no_NoGame (ev_var (i := 4) rfl) (weak_fin [0, 1, 2, 3, 4] (by rfl)))
 (Blk.x (blk_fin [] (by rfl)))) fun s_7 =>
 (Blk.x (blk_fldC N.hf_owners (enf_leaf (ev_var (i := 1) rfl)) (j := 0) rfl
 (blk_fldC N.hf_ranks (enf_leaf (ev_var (i := 2) rfl)) (j := 0) rfl
 (blk_last (blk_fldC N.hf_ways (enf_leaf (ev_var (i := 3) rfl)) (j := 0) rfl
 (blk_fin [0, 1, 2, 3, 4] (by rfl)))))))))⟩⟩
noncomputable def m_read_game (text_1 : U) : M U := fnX (exB (callX (L1 m_rows_of) (consA (.ret text_1) nilA)) fun rows_2 => (seqO (S := Unit) (iteW (testW (op2 neU (op2 ixU (.ret rows_2) (.ret (.int 0))) (.ret (.str "game")))) (.bind (.ret (.int 0)) fun u => .ret (.rt (exO "NoText" "row" u))) (nxO ())) fun s_3 => (seqO (S := U × U) (.bind (callM (L3 m_taken) (consA (.ret rows_2) (consA (.ret (.int 1)) (consA (.ret (.top "place_in_game")) nilA)))) fun u_7 => un2 u_7 fun places_5 at_6 => (nxO (places_5, at_6))) fun s_4 => (seqO (S := U × U) (.bind (callM (L3 m_taken) (consA (.ret rows_2) (consA (.ret s_4.2) (consA (.ret (.top "way_in_game")) nilA)))) fun u_11 => un2 u_11 fun ways_9 at_10 => (nxO (ways_9, at_10))) fun s_8 => (exB (callX (L2' m_check_end) (consA (.ret rows_2) (consA (.ret s_8.2) nilA))) fun _ => (exB (mkX "Game" (L4 m_Game___init__) (consA (op1 tupleU (lcW (itW (.ret s_4.1)) (fun e_17 => un2 e_17 fun owner_15 rank_16 => (.ret true)) fun e_17 => un2 e_17 fun owner_15 rank_16 => (.ret owner_15))) (consA (op1 tupleU (lcW (itW (.ret s_4.1)) (fun e_14 => un2 e_14 fun owner_12 rank_13 => (.ret true)) fun e_14 => un2 e_14 fun owner_12 rank_13 => (.ret rank_13))) (consA (.ret s_8.1) nilA)))) fun u => .ret (.rt u)))))))
theorem w_read_game {P : Program} {w : World} {K : PySem.W.Frag} {mg : Str → Option Value} {bs : Heap} (N : En w K mg) : FnOk P w K mg bs (L2.CX P w) 8 (He.ga K "read_game") N.fd_read_game ["text"] (spX ⟨K, He.ga K⟩ (L1 m_read_game)) :=
  fn_okXF N.F_read_game sc_read_game (ar1 fun _ => rfl) fun cv A o s H E hr => ⟨_, (pss_cons (ps_set (i := 1) sc_read_game.nd rfl (.inl rfl) (pe_callS (w_rows_of N) (hr.mono (by decide)) (by rfl) N.g_rows_of N.F_rows_of.kp N.b_rows_of (fun σ => passAt (takes_of rfl rfl rfl rfl) σ) (pa_cons (pv 0) pa_nil)))
 (pss_cons (ps_if (pt_cmpR (op_neK K hr.units) (pe_ix (ix_seqK K) (pv 1) pe_int (fun _ _ => rfl)) pe_str (nomark _))
 (pss_one (ps_raise rfl (takes_of rfl rfl rfl rfl) (pmk_oex N.oe_NoText N.ei_NoText.ii N.ei_NoText.ti (w_NoText___init__ N) (hr.mono (by decide)) N.b_NoText___init__ .nil pass0 (by rfl) N.g_NoText (pa_cons pe_int pa_nil))))
 pss_nil)
 (pss_cons (ps_asg (pe_call (w_taken N) (hr.mono (by decide)) (by rfl) N.g_taken N.F_taken.kp N.b_taken .nil pass0 (pa_cons (pv 1) (pa_cons pe_int (pa_cons (pe_glob (v := .ref (He.ga K "place_in_game")) rfl N.g_place_in_game rfl) pa_nil)))) (pg_tup rfl (pgs_cons (pg_name (i := 2) sc_read_game.nd rfl (.inl rfl)) (pgs_cons (pg_name (i := 3) sc_read_game.nd rfl (.inl rfl)) pgs_nil))))
 (pss_cons (ps_asg (pe_call (w_taken N) (hr.mono (by decide)) (by rfl) N.g_taken N.F_taken.kp N.b_taken .nil pass0 (pa_cons (pv 1) (pa_cons (pv 3) (pa_cons (pe_glob (v := .ref (He.ga K "way_in_game")) rfl N.g_way_in_game rfl) pa_nil)))) (pg_tup rfl (pgs_cons (pg_name (i := 4) sc_read_game.nd rfl (.inl rfl)) (pgs_cons (pg_name (i := 3) sc_read_game.nd rfl (.inl rfl)) pgs_nil))))
 (pss_cons (ps_expr (pe_callS (w_check_end N) (hr.mono (by decide)) (by rfl) N.g_check_end N.F_check_end.kp N.b_check_end (fun σ => passAt (takes_of rfl rfl rfl rfl) σ) (pa_cons (pv 1) (pa_cons (pv 3) pa_nil))))
 (pss_one (ps_ret (pe_makeS N.mk_Game (w_Game___init__ N) (hr.mono (by decide)) (by rfl) N.g_Game N.b_Game___init__ (fun σ => passAt (takes_of rfl rfl rfl rfl) σ) (pa_cons (pe_callTy (call_tupleK K) (by rfl) N.m_tuple (by decide +kernel) (pa_cons (pe_lc (own := [("owner", 5), ("rank", 6)]) (by rfl) sc_read_game.nd (pi_seqK K (pv 2)) (blkOk_by (own := [("owner", 5), ("rank", 6)]) (N := N_read_game) (sc := defScope s_read_game) (by decide +kernel)) (fun _ _ _ _ _ => (pg_tupK K (n := 2) rfl (pgs_cons (pg_name (i := 5) sc_read_game.nd rfl (.inl rfl)) (pgs_cons (pg_name (i := 6) sc_read_game.nd rfl (.inl rfl)) pgs_nil)))) (fun _ _ _ _ _ => pts_nil) (fun _ _ _ _ _ => (pv 5))) pa_nil)) (pa_cons (pe_callTy (call_tupleK K) (by rfl) N.m_tuple (by decide +kernel) (pa_cons (pe_lc (own := [("owner", 5), ("rank", 6)]) (by rfl) sc_read_game.nd (pi_seqK K (pv 2)) (blkOk_by (own := [("owner", 5), ("rank", 6)]) (N := N_read_game) (sc := defScope s_read_game) (by decide +kernel)) (fun _ _ _ _ _ => (pg_tupK K (n := 2) rfl (pgs_cons (pg_name (i := 5) sc_read_game.nd rfl (.inl rfl)) (pgs_cons (pg_name (i := 6) sc_read_game.nd rfl (.inl rfl)) pgs_nil)))) (fun _ _ _ _ _ => pts_nil) (fun _ _ _ _ _ => (pv 6))) pa_nil)) (pa_cons (pv 4) pa_nil))))))))))),
   fun B H0 as0 => ar1 fun text_1 => ⟨_, rfl,
 (blkx_set (i := 1) (evx_call (ea_cons (ev_var (i := 0) rfl) ea_nil)) (weak_fin [0, 1, 2, 3, 4, 5, 6] (by rfl)) fun rows_2 =>
 (blkx_seq (blkx_ifL (S := Unit) (fun s_3 => [some (.im text_1), some (.im rows_2), none, none, none, none, none]) (et_test (EvW.r (ev_op ok_ne (EvW.r (ev_op ok_ix (EvW.r (ev_var (i := 1) rfl)) (EvW.r ev_int))) (EvW.r ev_str))))
 (blkx_raiseO N.oe_NoText N.no_NoText ev_int (weak_fin [0, 1, 2, 3, 4, 5, 6] (by rfl)))
 (Blk.x (blk_fin [] (by rfl)))) fun s_3 =>
 (blkx_seq (δ1 := (fun s_4 => [some (.im text_1), some (.im rows_2), some (.im s_4.1), some (.im s_4.2), none, none, none])) (Blk.x (blk_last (blk_tg (vs := [2, 3]) (ev_call (ea_cons (ev_var (i := 1) rfl) (ea_cons ev_int (ea_cons ev_top ea_nil)))) (pat2 (P := fun δ w => Blk _ _ δ w _ _) (by decide) (by decide) fun places_5 at_6 =>
 (blk_fin [] (by rfl)))))) fun s_4 =>
 (blkx_seq (δ1 := (fun s_8 => [some (.im text_1), some (.im rows_2), some (.im s_4.1), some (.im s_8.2), some (.im s_8.1), none, none])) (Blk.x (blk_last (blk_tg (vs := [4, 3]) (ev_call (ea_cons (ev_var (i := 1) rfl) (ea_cons (ev_var (i := 3) rfl) (ea_cons ev_top ea_nil)))) (pat2 (P := fun δ w => Blk _ _ δ w _ _) (by decide) (by decide) fun ways_9 at_10 =>
 (blk_fin [] (by rfl)))))) fun s_8 =>
 (blkx_expr (evx_call (ea_cons (ev_var (i := 1) rfl) (ea_cons (ev_var (i := 3) rfl) ea_nil))) (weak_fin [0, 1, 2, 3, 4, 5, 6] (by rfl))
 (blkx_ret (evx_make (c := "Game") (ea_cons (ev_cb1 ok_tuple (EvW.r (EvN.ew (en_lc (by rfl) (src_it (ev_var (i := 2) rfl)) (lcp2 (i := 5) (j := 6) (vs := [5, 6]) (by decide) (by decide) fun owner_15 rank_16 => ⟨et_yes, (ev_var (i := 5) rfl)⟩))))) (ea_cons (ev_cb1 ok_tuple (EvW.r (EvN.ew (en_lc (by rfl) (src_it (ev_var (i := 2) rfl)) (lcp2 (i := 5) (j := 6) (vs := [5, 6]) (by decide) (by decide) fun owner_12 rank_13 => ⟨et_yes, (ev_var (i := 6) rfl)⟩))))) (ea_cons (ev_var (i := 4) rfl) ea_nil)))) (weak_fin [0, 1, 2, 3, 4, 5, 6] (by rfl))))))))⟩⟩
noncomputable def m__law_class (caught_1 : U) : M U := fnM (seqO (S := Unit) (iteW (orT (notT (testW (op1 (isKU (tabX [("NoText", true), ("NoGame", true)])) (.ret caught_1)))) (testW (op1 (isKU (tabX [("NoText", false), ("NoGame", false)])) (.ret caught_1)))) (rtO (.ret (.str "odd"))) (nxO ())) fun s_2 => (.bind (lstW (consA (op1 (isKU (tabX [("NoText", true), ("NoGame", false)])) (.ret caught_1)) (consA (op1 (isKU (tabX [("NoText", false), ("NoGame", false)])) (.ret caught_1)) (consA (op1 (isKU (tabX [("NoText", false), ("NoGame", true)])) (.ret caught_1)) nilA)))) fun marks_3 => (seqO (S := Unit) (iteW (testW (op2 eqU (.ret marks_3) (lstW (consA (.ret (U.bl true)) (consA (.ret (U.bl false)) (consA (.ret (U.bl false)) nilA)))))) (rtO (tupW (consA (.ret (.str "text")) (consA (op1 (xfU (tabX [("NoText", true), ("NoGame", false)]) "row") (.ret caught_1)) nilA)))) (nxO ())) fun s_4 => (seqO (S := Unit) (iteW (testW (op2 eqU (.ret marks_3) (lstW (consA (.ret (U.bl false)) (consA (.ret (U.bl true)) (consA (.ret (U.bl false)) nilA)))))) (rtO (tupW (consA (.ret (.str "hall")) (consA (op1 (xfU (tabX [("NoText", false), ("NoGame", true)]) "why") (.ret caught_1)) nilA)))) (nxO ())) fun s_5 => (rtO (iteW (testW (op2 eqU (.ret marks_3) (lstW (consA (.ret (U.bl false)) (consA (.ret (U.bl false)) (consA (.ret (U.bl true)) nilA)))))) (tupW (consA (.ret (.str "game")) (consA (op1 (xfU (tabX [("NoText", false), ("NoGame", true)]) "why") (.ret caught_1)) nilA))) (.ret (.str "odd"))))))))
theorem w__law_class {P : Program} {w : World} {K : PySem.W.Frag} {mg : Str → Option Value} {bs : Heap} (N : En w K mg) : FnOk P w K mg bs CX0 1 (He.ga K "_law_class") N.fd__law_class ["_law_caught"] (spM ⟨K, He.ga K⟩ (L1 m__law_class)) :=
  fn_okF N.F__law_class sc__law_class (ar1 fun _ => rfl) fun cv A o s H E hr => ⟨_, PSs.nox (pss_cons (ps_if (PW.pt (pw_or (pt_not (pt_val (pe_callB (call_isK (K := K)) (by rfl) N.m_isinstance (by decide +kernel) (pa_cons (pv 0) (pa_cons (pe_bltn (v := .ty "ValueError") (by rfl) N.m_ValueError (by decide +kernel) rfl) pa_nil))))) (pw_or1 (pt_val (pe_callB (call_isKT (K := K)) (by rfl) N.m_isinstance (by decide +kernel) (pa_cons (pv 0) (pa_cons (pe_tup (pa_cons (pe_glob (v := .ref (He.ga K "NoLine")) rfl N.g_NoLine rfl) (pa_cons (pe_glob (v := .ref (He.ga K "NoName")) rfl N.g_NoName rfl) (pa_cons (pe_glob (v := .ref (He.ga K "NoSort")) rfl N.g_NoSort rfl) (pa_cons (pe_glob (v := .ref (He.ga K "NotCertain")) rfl N.g_NotCertain rfl) (pa_cons (pe_glob (v := .ref (He.ga K "TooMany")) rfl N.g_TooMany rfl) (pa_cons (pe_glob (v := .ref (He.ga K "Unlike")) rfl N.g_Unlike rfl) pa_nil))))))) pa_nil)))))))
 (pss_one (ps_ret pe_str))
 pss_nil)
 (pss_cons (ps_set (i := 1) sc__law_class.nd rfl (.inl rfl) (pe_lst (pa_cons (pe_callB (call_isK (K := K)) (by rfl) N.m_isinstance (by decide +kernel) (pa_cons (pv 0) (pa_cons (pe_glob (v := .ref (He.ga K "NoText")) rfl N.g_NoText rfl) pa_nil))) (pa_cons (pe_callB (call_isK (K := K)) (by rfl) N.m_isinstance (by decide +kernel) (pa_cons (pv 0) (pa_cons (pe_glob (v := .ref (He.ga K "NoHall")) rfl N.g_NoHall rfl) pa_nil))) (pa_cons (pe_callB (call_isK (K := K)) (by rfl) N.m_isinstance (by decide +kernel) (pa_cons (pv 0) (pa_cons (pe_glob (v := .ref (He.ga K "NoGame")) rfl N.g_NoGame rfl) pa_nil))) pa_nil)))))
 (pss_cons (ps_if (pt_cmpR (op_eqK K hr.units) (pv 1) (pe_lst (pa_cons pe_bl (pa_cons pe_bl (pa_cons pe_bl pa_nil)))) (nomark _))
 (pss_one (ps_ret (pe_tup (pa_cons pe_str (pa_cons (pe_xfK (pv 0)) pa_nil)))))
 pss_nil)
 (pss_cons (ps_if (pt_cmpR (op_eqK K hr.units) (pv 1) (pe_lst (pa_cons pe_bl (pa_cons pe_bl (pa_cons pe_bl pa_nil)))) (nomark _))
 (pss_one (ps_ret (pe_tup (pa_cons pe_str (pa_cons (pe_xfK (pv 0)) pa_nil)))))
 pss_nil)
 (pss_one (ps_ret (pe_ifExp (pt_cmpR (op_eqK K hr.units) (pv 1) (pe_lst (pa_cons pe_bl (pa_cons pe_bl (pa_cons pe_bl pa_nil)))) (nomark _)) (pe_tup (pa_cons pe_str (pa_cons (pe_xfK (pv 0)) pa_nil))) pe_str))))))),
   fun B H0 as0 => ar1 fun caught_1 => ⟨_, rfl,
 (blk_seq (blk_ifL (S := Unit) (fun s_2 => [some (.im caught_1), none]) (et_or (et_not (et_B (EvW.r (ev_isK (tab := (tabX [("NoText", true), ("NoGame", true)])) (c0 := .ty "ValueError") (cv := .type "ValueError") (tab_all (allC ⟨N.xi_NoText, N.kit_NoText_ValueError⟩ (allC ⟨N.xi_NoGame, N.kit_NoGame_ValueError⟩ allN))) clK_ty (EvW.r (ev_var (i := 0) rfl)))))) (et_B (EvW.r (ev_isKT (tab := (tabX [("NoText", false), ("NoGame", false)])) (cs := [.ref (He.ga K "NoLine"), .ref (He.ga K "NoName"), .ref (He.ga K "NoSort"), .ref (He.ga K "NotCertain"), .ref (He.ga K "TooMany"), .ref (He.ga K "Unlike")]) (cvs := [.ref (He.ga K "NoLine"), .ref (He.ga K "NoName"), .ref (He.ga K "NoSort"), .ref (He.ga K "NotCertain"), .ref (He.ga K "TooMany"), .ref (He.ga K "Unlike")]) (tab_all (allC ⟨N.xi_NoText, N.kitA_NoText_0⟩ (allC ⟨N.xi_NoGame, N.kitA_NoGame_0⟩ allN))) ⟨clK_ref, ⟨clK_ref, ⟨clK_ref, ⟨clK_ref, ⟨clK_ref, ⟨clK_ref, trivial⟩⟩⟩⟩⟩⟩ (show 6 ≤ sizeLine by decide) (EvW.r (ev_var (i := 0) rfl))))))
 (blk_ret (EvW.f ev_str))
 (blk_fin [] (by rfl))) fun s_2 =>
 (blk_set (i := 1) (EvN.ew (en_lst (ea_cons (ev_isK (tab := (tabX [("NoText", true), ("NoGame", false)])) (c0 := .ref (He.ga K "NoText")) (cv := .ref (He.ga K "NoText")) (tab_all (allC ⟨N.xi_NoText, N.kit_NoText_NoText⟩ (allC ⟨N.xi_NoGame, N.kit_NoGame_NoText⟩ allN))) clK_ref (EvW.r (ev_var (i := 0) rfl))) (ea_cons (ev_isK (tab := (tabX [("NoText", false), ("NoGame", false)])) (c0 := .ref (He.ga K "NoHall")) (cv := .ref (He.ga K "NoHall")) (tab_all (allC ⟨N.xi_NoText, N.kit_NoText_NoHall⟩ (allC ⟨N.xi_NoGame, N.kit_NoGame_NoHall⟩ allN))) clK_ref (EvW.r (ev_var (i := 0) rfl))) (ea_cons (ev_isK (tab := (tabX [("NoText", false), ("NoGame", true)])) (c0 := .ref (He.ga K "NoGame")) (cv := .ref (He.ga K "NoGame")) (tab_all (allC ⟨N.xi_NoText, N.kit_NoText_NoGame⟩ (allC ⟨N.xi_NoGame, N.kit_NoGame_NoGame⟩ allN))) clK_ref (EvW.r (ev_var (i := 0) rfl))) ea_nil))))) fun marks_3 =>
 (blk_seq (blk_ifL (S := Unit) (fun s_4 => [some (.im caught_1), some (.im marks_3)]) (et_test (EvW.r (ev_op ok_eq (EvW.r (ev_var (i := 1) rfl)) (EvW.r (EvN.ew (en_lst (ea_cons ev_bl (ea_cons ev_bl (ea_cons ev_bl ea_nil)))))))))
 (blk_ret (ef_tup (eaf_cons (EvW.f ev_str) (eaf_cons (EvW.f (ev_xf (tab := (tabX [("NoText", true), ("NoGame", false)])) (tab_all (P := fun c b => b = true → ExcC _ (He.ga _ c) ∧ PySem.W.findIn _ (.ref (He.ga _ c)) "row" = some none) (allC (fun _ => ⟨N.xi_NoText, N.no_NoText⟩) (allC (fun z => nomatch z) allN))) (EvW.r (ev_var (i := 0) rfl)))) eaf_nil))))
 (blk_fin [] (by rfl))) fun s_4 =>
 (blk_seq (blk_ifL (S := Unit) (fun s_5 => [some (.im caught_1), some (.im marks_3)]) (et_test (EvW.r (ev_op ok_eq (EvW.r (ev_var (i := 1) rfl)) (EvW.r (EvN.ew (en_lst (ea_cons ev_bl (ea_cons ev_bl (ea_cons ev_bl ea_nil)))))))))
 (blk_ret (ef_tup (eaf_cons (EvW.f ev_str) (eaf_cons (EvW.f (ev_xf (tab := (tabX [("NoText", false), ("NoGame", true)])) (tab_all (P := fun c b => b = true → ExcC _ (He.ga _ c) ∧ PySem.W.findIn _ (.ref (He.ga _ c)) "why" = some none) (allC (fun z => nomatch z) (allC (fun _ => ⟨N.xi_NoGame, N.no_NoGame⟩) allN))) (EvW.r (ev_var (i := 0) rfl)))) eaf_nil))))
 (blk_fin [] (by rfl))) fun s_5 =>
 (blk_ret (EvW.f (ev_if (et_test (EvW.r (ev_op ok_eq (EvW.r (ev_var (i := 1) rfl)) (EvW.r (EvN.ew (en_lst (ea_cons ev_bl (ea_cons ev_bl (ea_cons ev_bl ea_nil))))))))) (ev_tup (ea_cons ev_str (ea_cons (ev_xf (tab := (tabX [("NoText", false), ("NoGame", true)])) (tab_all (P := fun c b => b = true → ExcC _ (He.ga _ c) ∧ PySem.W.findIn _ (.ref (He.ga _ c)) "why" = some none) (allC (fun z => nomatch z) (allC (fun _ => ⟨N.xi_NoGame, N.no_NoGame⟩) allN))) (EvW.r (ev_var (i := 0) rfl))) ea_nil))) ev_str)))))))⟩⟩
noncomputable def m__law_told (text_1 : U) : M U := fnM (.bind (.ret U.non) fun caught_2 => (.bind (.ret U.non) fun found_3 => (seqO (S := U × U) (tryK (tabX [("NoText", true), ("NoGame", true)]) (exB (callX (L1 m_read_game) (consA (.ret text_1) nilA)) fun found_5 => (nxO (found_5, caught_2))) fun (c : U) => (found_3, c)) fun s_4 => (rtO (iteW (testW (.bind (.ret s_4.2) fun a => .ret (.bl (!isNU a)))) (callM (L1 m__law_class) (consA (.ret s_4.2) nilA)) (tupW (consA (op1 (fldU ["Game"] "owners") (.ret s_4.1)) (consA (op1 (fldU ["Game"] "ranks") (.ret s_4.1)) (consA (op1 (fldU ["Game"] "ways") (.ret s_4.1)) nilA)))))))))
theorem w__law_told {P : Program} {w : World} {K : PySem.W.Frag} {mg : Str → Option Value} {bs : Heap} (N : En w K mg) : FnOk P w K mg bs CX0 9 (He.ga K "_law_told") N.fd__law_told ["_law_text"] (spM ⟨K, He.ga K⟩ (L1 m__law_told)) :=
  fn_okF N.F__law_told sc__law_told (ar1 fun _ => rfl) fun cv A o s H E hr => ⟨_, PSs.nox (pss_cons (ps_asg (pe_tup (pa_cons pe_non (pa_cons pe_non pa_nil))) (pg_tup rfl (pgs_cons (pg_name (i := 1) sc__law_told.nd rfl (.inl rfl)) (pgs_cons (pg_name (i := 2) sc__law_told.nd rfl (.inl rfl)) pgs_nil))))
 (pss_cons (ps_try_keep (i := 3) (j := 1) rfl rfl rfl sc__law_told.nd rfl rfl rfl rfl (by decide) (by decide) (by decide) ⟨rfl, by decide, .inl N.g_HallError⟩ takes0 (fun W pn xe tk _ =>
 (pss_one (ps_set (i := 2) sc__law_told.nd rfl (.inl rfl) (pe_callS (w_read_game N) (hr.mono (by decide)) (by rfl) N.g_read_game N.F_read_game.kp N.b_read_game (fun σ => passAt tk σ) (pa_cons (pv 0) pa_nil))))))
 (pss_one (ps_ret (pe_ifExp (pt_cmpR op_notN (pv 1) pe_non (nomark _)) (pe_call (w__law_class N) (hr.mono (by decide)) (by rfl) N.g__law_class N.F__law_class.kp N.b__law_class .nil pass0 (pa_cons (pv 1) pa_nil)) (pe_tup (pa_cons (pe_fldK K (pv 2) rfl) (pa_cons (pe_fldK K (pv 2) rfl) (pa_cons (pe_fldK K (pv 2) rfl) pa_nil))))))))),
   fun B H0 as0 => ar1 fun text_1 => ⟨_, rfl,
 (blk_tup_WW (i0 := 1) (i1 := 2) ev_non ev_non fun caught_2 found_3 =>
 (blk_seq (δ1 := (fun s_4 => [some (.im text_1), some (.im s_4.2), some (.im s_4.1), none])) (blk_tryK (S := U × U) (δx := [some (.im text_1), some (.im caught_2), some (.im found_3), none]) (δn := (fun s_4 => [some (.im text_1), some (.im s_4.2), some (.im s_4.1), none])) (tab := (tabX [("NoText", true), ("NoGame", true)])) (sx := fun (c : U) => (found_3, c)) (fun W =>
 (blkx_last (blkx_set (i := 2) (evx_call (ea_cons (ev_var (i := 0) rfl) ea_nil)) (weak_fin [] (by rfl)) fun found_5 =>
 (Blk.x (blk_fin [3] (by rfl)))))) (fun c => weak_fin [3] (by rfl)) (fun c e => tab_all (P := fun c b => b = true → PySem.W.exmOne _ (.ref (He.ga K c)) (.ref (He.ga K "HallError")) = some true) (allC (fun _ => N.xm_NoText_HallError) (allC (fun _ => N.xm_NoGame_HallError) allN)) c _ e rfl)) fun s_4 =>
 (blk_ret (EvW.f (ev_if (et_test (EvW.r (ev_notN (EvW.r (ev_var (i := 1) rfl))))) (ev_call (ea_cons (ev_var (i := 1) rfl) ea_nil)) (ev_tup (ea_cons (ev_fld N.hf_owners (EvW.r (ev_var (i := 2) rfl))) (ea_cons (ev_fld N.hf_ranks (EvW.r (ev_var (i := 2) rfl))) (ea_cons (ev_fld N.hf_ways (EvW.r (ev_var (i := 2) rfl))) ea_nil)))))))))⟩⟩
noncomputable def m__law_numbers (words_1 : U) : M U := fnM (.bind (lstW nilA) fun found_2 => (seqO (S := U) (.bind (itW (.ret words_1)) fun us => forO (fun word_4 s_3 => (seqO (S := Unit) (iteW (orT (notT (testW (chainW ltU ltU (.ret (.int 0)) (op1 lenSU (.ret word_4)) (.ret (.int 10))))) (notT (testW (op1 allU (lcW (itSW (.ret word_4)) (fun figure_5 => (.ret true)) fun figure_5 => (op2 inTU (.ret figure_5) (.ret (.str "0123456789")))))))) (rtO (.ret U.non)) (nxO ())) fun s_7 => (seqO (S := Unit) (iteW (andT (testW (op2 eqU (op2 ixSU (.ret word_4) (.ret (.int 0))) (.ret (.str "0")))) (testW (op2 neU (.ret word_4) (.ret (.str "0"))))) (rtO (.ret U.non)) (nxO ())) fun s_8 => (.bindS (.bind (.ret (s_3, id)) fun h => .bind (consA (op1 intSU (.ret word_4)) nilA) fun xs => .o (mutL appL h xs)) fun found_9 => (nxO found_9))))) us found_2) fun s_3 => (rtO (op1 tupleU (.ret s_3)))))
theorem w__law_numbers {P : Program} {w : World} {K : PySem.W.Frag} {mg : Str → Option Value} {bs : Heap} (N : En w K mg) : FnOk P w K mg bs CX0 1 (He.ga K "_law_numbers") N.fd__law_numbers ["_law_words"] (spM ⟨K, He.ga K⟩ (L1 m__law_numbers)) :=
  fn_okF N.F__law_numbers sc__law_numbers (ar1 fun _ => rfl) fun cv A o s H E hr => ⟨_, PSs.nox (pss_cons (ps_set (i := 1) sc__law_numbers.nd rfl (.inl rfl) (pe_lst pa_nil))
 (pss_cons (ps_for PassesOwn.never rfl (pi_seqK K (pv 0)) (pg_name (i := 2) sc__law_numbers.nd rfl (.inl rfl))
 (pss_cons (ps_if (PW.pt (pw_or (pt_not (pt_chain (op_ltK K hr.units) (op_ltK K hr.units) pe_int (pe_callB (call_lenS K (by rfl)) (by rfl) N.m_len PySem.boot_len (pa_cons (pv 2) pa_nil)) pe_int)) (pw_or1 (pt_not (pt_val (pe_callB (cr_allK K rfl) (by rfl) N.m_all (by decide +kernel) (pa_cons (pe_lc (own := [("_law_figure", 3)]) (by rfl) sc__law_numbers.nd (pi_str (pv 2)) (blkOk_by (own := [("_law_figure", 3)]) (N := N__law_numbers) (sc := defScope s__law_numbers) (by decide +kernel)) (fun _ _ _ _ _ => (pg_name (i := 3) sc__law_numbers.nd rfl (.inl rfl))) (fun _ _ _ _ _ => pts_nil) (fun _ _ _ _ _ => (pe_cmpR op_in_sign (pv 3) pe_str (by rfl)))) pa_nil)))))))
 (pss_one (ps_ret pe_non))
 pss_nil)
 (pss_cons (ps_if (PW.pt (pw_and (pt_cmpR (op_eqK K hr.units) (pe_ix (ix_anyK K) (pv 2) pe_int (fun _ _ => rfl)) pe_str (nomark _)) (pw_and1 (pt_cmpR (op_neK K hr.units) (pv 2) pe_str (nomark _)))))
 (pss_one (ps_ret pe_non))
 pss_nil)
 (pss_one (ps_expr (pe_bm PySem.F.plainAttrs_list PySem.F.slot_list_append PySem.F.type_list_append mt_append (pv 1) (pa_cons (pe_callTy call_int_str (by rfl) N.m_int (by decide +kernel) (pa_cons (pv 2) pa_nil)) pa_nil)))))))
 (pss_one (ps_ret (pe_callTy (call_tupleK K) (by rfl) N.m_tuple (by decide +kernel) (pa_cons (pv 1) pa_nil)))))),
   fun B H0 as0 => ar1 fun words_1 => ⟨_, rfl,
 (blk_own (i := 1) (en_lst ea_nil) fun found_2 =>
 (blk_seq (blk_forL (S := U) [2] [2] (fun s_3 => [some (.im words_1), some (.own (.lst .leaf) s_3), none, none]) (by rfl) (src_it (ev_var (i := 0) rfl))
 (fun s_3 word_4 st r q => ⟨_, tg_name (by decide), (blk_seq (blk_ifL (S := Unit) (fun s_7 => [some (.im words_1), some (.own (.lst .leaf) s_3), some (.im word_4), none]) (et_or (et_not (et_test (EvW.r (ev_chain ok_lt ok_lt (EvW.r ev_int) (EvW.r (ev_cb1 ok_lenS (EvW.r (ev_var (i := 2) rfl)))) (EvW.r ev_int))))) (et_not (et_B (EvW.r (ev_cb1 ok_all (EvW.r (EvN.ew (en_lc (by rfl) (src_str (ev_var (i := 2) rfl)) fun figure_5 st r q => ⟨_, tg_name (by decide), et_yes, (ev_op ok_inT (EvW.r (ev_var (i := 3) rfl)) (EvW.r ev_str))⟩))))))))
 (blk_ret (EvW.f ev_non))
 (blk_fin [] (by rfl))) fun s_7 =>
 (blk_seq (blk_ifL (S := Unit) (fun s_8 => [some (.im words_1), some (.own (.lst .leaf) s_3), some (.im word_4), none]) (et_and (et_test (EvW.r (ev_op ok_eq (EvW.r (ev_op ok_ixS (EvW.r (ev_var (i := 2) rfl)) (EvW.r ev_int))) (EvW.r ev_str)))) (et_test (EvW.r (ev_op ok_ne (EvW.r (ev_var (i := 2) rfl)) (EvW.r ev_str)))))
 (blk_ret (EvW.f ev_non))
 (blk_fin [] (by rfl))) fun s_8 =>
 (blk_last (blk_x2 (ex_mut mut_app (eh_slot (i := 1) rfl) (ea_cons (ev_cb1 ok_intS (EvW.r (ev_var (i := 2) rfl))) ea_nil)) fun found_9 =>
 (blk_fin [2] (by rfl))))))⟩)) fun s_3 =>
 (blk_ret (EvW.f (ev_cb1 ok_tuple (ev_ownL (i := 1) rfl))))))⟩⟩
noncomputable def m__law_read (text_1 : U) : M U := fnM (.bind (op2 splitU (.ret text_1) (.ret (.str "\n"))) fun rows_2 => (.bind (lstW nilA) fun places_3 => (.bind (lstW nilA) fun ways_4 => (seqO (S := Unit) (iteW (testW (op2 neU (op2 ixU (.ret rows_2) (.ret (.int 0))) (.ret (.str "game")))) (rtO (.ret (.int 0))) (nxO ())) fun s_5 => (seqO (S := U × U) (.bind (enumW (slW (.ret rows_2) (someP (.ret (.int 1))) noP)) fun us => forO (fun e_18 s_6 => un2 e_18 fun at_7 row_8 => (.bind (callM (L1 m__law_numbers) (consA (slW (op2 splitU (.ret row_8) (.ret (.str " "))) (someP (.ret (.int 1))) noP) nilA)) fun numbers_here_9 => (.bind (op2 ixU (op2 splitU (.ret row_8) (.ret (.str " "))) (.ret (.int 0))) fun first_10 => (seqO (S := Unit) (iteW (orT (testW (.bind (.ret numbers_here_9) fun a => .ret (.bl (isNU a)))) (orT (testW (op2 neU (op1 lenU (.ret numbers_here_9)) (.ret (.int 2)))) (orT (testW (op2 notInSU (.ret first_10) (tupW (consA (.ret (.str "place")) (consA (.ret (.str "way")) nilA))))) (andT (testW (op2 eqU (.ret first_10) (.ret (.str "place")))) (testW (op2 neU (.ret s_6.2) (lstW nilA))))))) (rtO (op2 addU (.ret at_7) (.ret (.int 1)))) (nxO ())) fun s_11 => (iteW (testW (op2 eqU (.ret first_10) (.ret (.str "place")))) (.bindS (.bind (.ret (s_6.1, id)) fun h => .bind (consA (.ret numbers_here_9) nilA) fun xs => .o (mutL appL h xs)) fun places_12 => (nxO (places_12, s_6.2))) (.bindS (.bind (.ret (s_6.2, id)) fun h => .bind (consA (.ret numbers_here_9) nilA) fun xs => .o (mutL appL h xs)) fun ways_13 => (nxO (s_6.1, ways_13)))))))) us (places_3, ways_4)) fun s_6 => (rtO (tupW (consA (op1 tupleU (lcW (itW (.ret s_6.1)) (fun place_16 => (.ret true)) fun place_16 => (op2 ixU (.ret place_16) (.ret (.int 0))))) (consA (op1 tupleU (lcW (itW (.ret s_6.1)) (fun place_14 => (.ret true)) fun place_14 => (op2 ixU (.ret place_14) (.ret (.int 1))))) (consA (op1 tupleU (.ret s_6.2)) nilA))))))))))
theorem w__law_read {P : Program} {w : World} {K : PySem.W.Frag} {mg : Str → Option Value} {bs : Heap} (N : En w K mg) : FnOk P w K mg bs CX0 2 (He.ga K "_law_read") N.fd__law_read ["_law_text"] (spM ⟨K, He.ga K⟩ (L1 m__law_read)) :=
  fn_okF N.F__law_read sc__law_read (ar1 fun _ => rfl) fun cv A o s H E hr => ⟨_, PSs.nox (pss_cons (ps_par3 (i := 1) (j := 2) (l := 3) (by rfl) sc__law_read.nd rfl rfl rfl (by decide) (by decide) (by decide) rfl rfl rfl (pa_cons (pe_split (pv 0) pe_str) (pa_cons (pe_lst pa_nil) (pa_cons (pe_lst pa_nil) pa_nil))) (by rfl))
 (pss_cons (ps_if (pt_cmpR (op_neK K hr.units) (pe_ix (ix_seqK K) (pv 1) pe_int (fun _ _ => rfl)) pe_str (nomark _))
 (pss_one (ps_ret pe_int))
 pss_nil)
 (pss_cons (ps_for PassesOwn.never rfl (pi_enAK K (by rfl) N.m_enumerate (pa_cons (pe_slice (sl_seqK K) (pv 1) (po_some pe_int) po_none) pa_nil)) (pg_tup rfl (pgs_cons (pg_name (i := 4) sc__law_read.nd rfl (.inl rfl)) (pgs_cons (pg_name (i := 5) sc__law_read.nd rfl (.inl rfl)) pgs_nil)))
 (pss_cons (ps_set (i := 6) sc__law_read.nd rfl (.inl rfl) (pe_call (w__law_numbers N) (hr.mono (by decide)) (by rfl) N.g__law_numbers N.F__law_numbers.kp N.b__law_numbers .nil pass0 (pa_cons (pe_slice (sl_seqK K) (pe_split (pv 5) pe_str) (po_some pe_int) po_none) pa_nil)))
 (pss_cons (ps_set (i := 7) sc__law_read.nd rfl (.inl rfl) (pe_ix (ix_seqK K) (pe_split (pv 5) pe_str) pe_int (fun _ _ => rfl)))
 (pss_cons (ps_if (PW.pt (pw_or (pt_cmpR op_isN (pv 6) pe_non (nomark _)) (pw_or (pt_cmpR (op_neK K hr.units) (pe_callB (call_lenK K) (by rfl) N.m_len PySem.boot_len (pa_cons (pv 6) pa_nil)) pe_int (nomark _)) (pw_or (pt_cmpR (op_notInAK K (rm66 hr)) (pv 7) (pe_tup (pa_cons pe_str (pa_cons pe_str pa_nil))) (by rfl)) (pw_or1 (PW.pt (pw_and (pt_cmpR (op_eqK K hr.units) (pv 7) pe_str (nomark _)) (pw_and1 (pt_cmpR (op_neK K hr.units) (pv 3) (pe_lst pa_nil) (nomark _))))))))))
 (pss_one (ps_ret (pe_op (op_addK K) (pv 4) pe_int)))
 pss_nil)
 (pss_one (ps_if (pt_cmpR (op_eqK K hr.units) (pv 7) pe_str (nomark _))
 (pss_one (ps_expr (pe_bm PySem.F.plainAttrs_list PySem.F.slot_list_append PySem.F.type_list_append mt_append (pv 2) (pa_cons (pv 6) pa_nil))))
 (pss_one (ps_expr (pe_bm PySem.F.plainAttrs_list PySem.F.slot_list_append PySem.F.type_list_append mt_append (pv 3) (pa_cons (pv 6) pa_nil))))))))))
 (pss_one (ps_ret (pe_tup (pa_cons (pe_callTy (call_tupleK K) (by rfl) N.m_tuple (by decide +kernel) (pa_cons (pe_lc (own := [("_law_place", 8)]) (by rfl) sc__law_read.nd (pi_seqK K (pv 2)) (blkOk_by (own := [("_law_place", 8)]) (N := N__law_read) (sc := defScope s__law_read) (by decide +kernel)) (fun _ _ _ _ _ => (pg_name (i := 8) sc__law_read.nd rfl (.inl rfl))) (fun _ _ _ _ _ => pts_nil) (fun _ _ _ _ _ => (pe_ix (ix_seqK K) (pv 8) pe_int (fun _ _ => rfl)))) pa_nil)) (pa_cons (pe_callTy (call_tupleK K) (by rfl) N.m_tuple (by decide +kernel) (pa_cons (pe_lc (own := [("_law_place", 8)]) (by rfl) sc__law_read.nd (pi_seqK K (pv 2)) (blkOk_by (own := [("_law_place", 8)]) (N := N__law_read) (sc := defScope s__law_read) (by decide +kernel)) (fun _ _ _ _ _ => (pg_name (i := 8) sc__law_read.nd rfl (.inl rfl))) (fun _ _ _ _ _ => pts_nil) (fun _ _ _ _ _ => (pe_ix (ix_seqK K) (pv 8) pe_int (fun _ _ => rfl)))) pa_nil)) (pa_cons (pe_callTy (call_tupleK K) (by rfl) N.m_tuple (by decide +kernel) (pa_cons (pv 3) pa_nil)) pa_nil))))))))),
   fun B H0 as0 => ar1 fun text_1 => ⟨_, rfl,
 (blk_par_WNN (i0 := 1) (i1 := 2) (i2 := 3) (ev_split (EvW.r (ev_var (i := 0) rfl)) (EvW.r ev_str)) (en_lst ea_nil) (en_lst ea_nil) fun rows_2 places_3 ways_4 =>
 (blk_seq (blk_ifL (S := Unit) (fun s_5 => [some (.im text_1), some (.im rows_2), some (.own (.lst .leaf) places_3), some (.own (.lst .leaf) ways_4), none, none, none, none, none]) (et_test (EvW.r (ev_op ok_ne (EvW.r (ev_op ok_ix (EvW.r (ev_var (i := 1) rfl)) (EvW.r ev_int))) (EvW.r ev_str))))
 (blk_ret (EvW.f ev_int))
 (blk_fin [] (by rfl))) fun s_5 =>
 (blk_seq (blk_forL (S := U × U) [4, 5, 6, 7] [4, 5] (fun s_6 => [some (.im text_1), some (.im rows_2), some (.own (.lst .leaf) s_6.1), some (.own (.lst .leaf) s_6.2), none, none, none, none, none]) (by rfl) (src_enum (ev_sl (EvW.r (ev_var (i := 1) rfl)) (eo_some (EvW.r ev_int)) eo_none))
 (fun s_6 => pat2 (P := fun δ w => Blk _ _ δ w _ _) (by decide) (by decide) fun at_7 row_8 => (blk_set (i := 6) (ev_call (ea_cons (ev_sl (EvW.r (ev_split (EvW.r (ev_var (i := 5) rfl)) (EvW.r ev_str))) (eo_some (EvW.r ev_int)) eo_none) ea_nil)) fun numbers_here_9 =>
 (blk_set (i := 7) (ev_op ok_ix (EvW.r (ev_split (EvW.r (ev_var (i := 5) rfl)) (EvW.r ev_str))) (EvW.r ev_int)) fun first_10 =>
 (blk_seq (blk_ifL (S := Unit) (fun s_11 => [some (.im text_1), some (.im rows_2), some (.own (.lst .leaf) s_6.1), some (.own (.lst .leaf) s_6.2), some (.im at_7), some (.im row_8), some (.im numbers_here_9), some (.im first_10), none]) (et_or (et_test (EvW.r (ev_isN (EvW.r (ev_var (i := 6) rfl))))) (et_or (et_test (EvW.r (ev_op ok_ne (EvW.r (ev_cb1 ok_len (EvW.r (ev_var (i := 6) rfl)))) (EvW.r ev_int)))) (et_or (et_test (EvW.r (ev_op ok_notIn (EvW.r (ev_var (i := 7) rfl)) (EvW.r (ev_tup (ea_cons ev_str (ea_cons ev_str ea_nil))))))) (et_and (et_test (EvW.r (ev_op ok_eq (EvW.r (ev_var (i := 7) rfl)) (EvW.r ev_str)))) (et_test (EvW.r (ev_op ok_ne (ev_ownL (i := 3) rfl) (EvW.r (EvN.ew (en_lst ea_nil))))))))))
 (blk_ret (EvW.f (ev_op ok_add (EvW.r (ev_var (i := 4) rfl)) (EvW.r ev_int))))
 (blk_fin [] (by rfl))) fun s_11 =>
 (blk_if (et_test (EvW.r (ev_op ok_eq (EvW.r (ev_var (i := 7) rfl)) (EvW.r ev_str))))
 (blk_last (blk_x2 (ex_mut mut_app (eh_slot (i := 2) rfl) (ea_cons (ev_var (i := 6) rfl) ea_nil)) fun places_12 =>
 (blk_fin [4, 5, 6, 7] (by rfl))))
 (blk_last (blk_x2 (ex_mut mut_app (eh_slot (i := 3) rfl) (ea_cons (ev_var (i := 6) rfl) ea_nil)) fun ways_13 =>
 (blk_fin [4, 5, 6, 7] (by rfl)))))))))) fun s_6 =>
 (blk_frz (i := 2) rfl (blk_ret (ef_tup (eaf_cons (EvW.f (ev_cb1 ok_tuple (EvW.r (EvN.ew (en_lc (by rfl) (src_it (ev_var (i := 2) rfl)) fun place_16 st r q => ⟨_, tg_name (by decide), et_yes, (ev_op ok_ix (EvW.r (ev_var (i := 8) rfl)) (EvW.r ev_int))⟩))))) (eaf_cons (EvW.f (ev_cb1 ok_tuple (EvW.r (EvN.ew (en_lc (by rfl) (src_it (ev_var (i := 2) rfl)) fun place_14 st r q => ⟨_, tg_name (by decide), et_yes, (ev_op ok_ix (EvW.r (ev_var (i := 8) rfl)) (EvW.r ev_int))⟩))))) (eaf_cons (EvW.f (ev_cb1 ok_tuple (ev_ownL (i := 3) rfl))) eaf_nil)))))))))⟩⟩
noncomputable def m__law_due (text_1 : U) : M U := fnM (.bind (callM (L1 m__law_read) (consA (.ret text_1) nilA)) fun found_2 => (.bind (.ret U.non) fun caught_3 => (seqO (S := Unit) (iteW (testW (op1 (isiU · "int") (.ret found_2))) (rtO (tupW (consA (.ret (.str "text")) (consA (.ret found_2) nilA)))) (nxO ())) fun s_4 => (seqO (S := U) (tryK (tabX [("NoText", true), ("NoGame", true)]) (exB (mkX "Game" (L4 m_Game___init__) (consA (op2 ixU (.ret found_2) (.ret (.int 0))) (consA (op2 ixU (.ret found_2) (.ret (.int 1))) (consA (op2 ixU (.ret found_2) (.ret (.int 2))) nilA)))) fun _ => (nxO caught_3)) fun (c : U) => c) fun s_5 => (rtO (iteW (testW (.bind (.ret s_5) fun a => .ret (.bl (isNU a)))) (.ret found_2) (callM (L1 m__law_class) (consA (.ret s_5) nilA))))))))
theorem w__law_due {P : Program} {w : World} {K : PySem.W.Frag} {mg : Str → Option Value} {bs : Heap} (N : En w K mg) : FnOk P w K mg bs CX0 8 (He.ga K "_law_due") N.fd__law_due ["_law_text"] (spM ⟨K, He.ga K⟩ (L1 m__law_due)) :=
  fn_okF N.F__law_due sc__law_due (ar1 fun _ => rfl) fun cv A o s H E hr => ⟨_, PSs.nox (pss_cons (ps_par (i := 1) (j := 2) (by rfl) sc__law_due.nd rfl rfl (by decide) rfl rfl (pa_cons (pe_call (w__law_read N) (hr.mono (by decide)) (by rfl) N.g__law_read N.F__law_read.kp N.b__law_read .nil pass0 (pa_cons (pv 0) pa_nil)) (pa_cons pe_non pa_nil)) (by rfl))
 (pss_cons (ps_if (pt_val (pe_callB (call_isiK K) (by rfl) N.m_isinstance (by decide +kernel) (pa_cons (pv 1) (pa_cons (pe_bltn (v := .ty "int") (by rfl) N.m_int (by decide +kernel) rfl) pa_nil))))
 (pss_one (ps_ret (pe_tup (pa_cons pe_str (pa_cons (pv 1) pa_nil)))))
 pss_nil)
 (pss_cons (ps_try_keep (i := 3) (j := 2) rfl rfl rfl sc__law_due.nd rfl rfl rfl rfl (by decide) (by decide) (by decide) ⟨rfl, by decide, .inl N.g_HallError⟩ takes0 (fun W pn xe tk _ =>
 (pss_one (ps_expr (pe_makeS N.mk_Game (w_Game___init__ N) (hr.mono (by decide)) (by rfl) N.g_Game N.b_Game___init__ (fun σ => passAt tk σ) (pa_cons (pe_ix (ix_seqK K) (pv 1) pe_int (fun _ _ => rfl)) (pa_cons (pe_ix (ix_seqK K) (pv 1) pe_int (fun _ _ => rfl)) (pa_cons (pe_ix (ix_seqK K) (pv 1) pe_int (fun _ _ => rfl)) pa_nil))))))))
 (pss_one (ps_ret (pe_ifExp (pt_cmpR op_isN (pv 2) pe_non (nomark _)) (pv 1) (pe_call (w__law_class N) (hr.mono (by decide)) (by rfl) N.g__law_class N.F__law_class.kp N.b__law_class .nil pass0 (pa_cons (pv 2) pa_nil)))))))),
   fun B H0 as0 => ar1 fun text_1 => ⟨_, rfl,
 (blk_par2 (i0 := 1) (i1 := 2) (ev_call (ea_cons (ev_var (i := 0) rfl) ea_nil)) ev_non fun found_2 caught_3 =>
 (blk_seq (blk_ifL (S := Unit) (fun s_4 => [some (.im text_1), some (.im found_2), some (.im caught_3), none]) (et_B (EvW.r (ev_isi (EvW.r (ev_var (i := 1) rfl)))))
 (blk_ret (ef_tup (eaf_cons (EvW.f ev_str) (eaf_cons (EvW.f (ev_var (i := 1) rfl)) eaf_nil))))
 (blk_fin [] (by rfl))) fun s_4 =>
 (blk_seq (δ1 := (fun s_5 => [some (.im text_1), some (.im found_2), some (.im s_5), none])) (blk_tryK (S := U) (δx := [some (.im text_1), some (.im found_2), some (.im caught_3), none]) (δn := (fun s_5 => [some (.im text_1), some (.im found_2), some (.im s_5), none])) (tab := (tabX [("NoText", true), ("NoGame", true)])) (sx := fun (c : U) => c) (fun W =>
 (blkx_last (blkx_expr (evx_make (c := "Game") (ea_cons (ev_op ok_ix (EvW.r (ev_var (i := 1) rfl)) (EvW.r ev_int)) (ea_cons (ev_op ok_ix (EvW.r (ev_var (i := 1) rfl)) (EvW.r ev_int)) (ea_cons (ev_op ok_ix (EvW.r (ev_var (i := 1) rfl)) (EvW.r ev_int)) ea_nil)))) (weak_fin [] (by rfl))
 (Blk.x (blk_fin [3] (by rfl)))))) (fun c => weak_fin [3] (by rfl)) (fun c e => tab_all (P := fun c b => b = true → PySem.W.exmOne _ (.ref (He.ga K c)) (.ref (He.ga K "HallError")) = some true) (allC (fun _ => N.xm_NoText_HallError) (allC (fun _ => N.xm_NoGame_HallError) allN)) c _ e rfl)) fun s_5 =>
 (blk_ret (EvW.f (ev_if (et_test (EvW.r (ev_isN (EvW.r (ev_var (i := 2) rfl))))) (ev_var (i := 1) rfl) (ev_call (ea_cons (ev_var (i := 2) rfl) ea_nil))))))))⟩⟩
noncomputable def m_law (script_1 : U) : M U := fnM (.bind (callM (L1 m__law_hand) (consA (.ret script_1) nilA)) fun hand_here_2 => (.bind (lstW (consA (.ret (.str "game")) (consA (.ret (.str "place 0 1")) (consA (.ret (.str "place 1 0")) (consA (.ret (.str "way 0 0")) (consA (.ret (.str "way 1 0")) (consA (.ret (.str "hall 1 1 0 again")) (consA (.ret (.str "places 0 1")) nilA)))))))) fun heads_3 => (seqO (S := Unit) (.bind (rng1W (.ret (.int 2))) fun us => forO (fun turn_5 s_4 => (.bind (callM (L1 m__law_game_text) (consA (callM (L2' m__law_game) (consA (.ret hand_here_2) (consA (.ret (.int 6)) nilA))) nilA)) fun text_6 => (seqO (S := Unit) (.bind (rng1W (.ret (.int 11))) fun us => forO (fun change_8 s_7 => (.bind (.ret text_6) fun thing_9 => (seqO (S := U) (.bind (rng1W (iteW (testW (op2 gtU (.ret change_8) (.ret (.int 0)))) (callM (L2' m__law_of) (consA (.ret hand_here_2) (consA (lstW (consA (.ret (.int 1)) (consA (.ret (.int 1)) (consA (.ret (.int 2)) (consA (.ret (.int 3)) nilA))))) nilA))) (.ret (.int 0)))) fun us => forO (fun k_11 s_10 => (.bind (callM (L3 m__law_spoilt) (consA (.ret hand_here_2) (consA (.ret s_10) (consA (.ret heads_3) nilA)))) fun thing_12 => (nxO thing_12))) us thing_9) fun s_10 => (iteW (testW (op2 neU (op1 reprE (callM (L1 m__law_told) (consA (.ret s_10) nilA))) (op1 reprE (callM (L1 m__law_due) (consA (.ret s_10) nilA))))) (rtO (.ret (U.bl false))) (nxO ()))))) us ()) fun s_7 => (nxO ())))) us ()) fun s_4 => (.bind (lstW (consA (.ret U.non) (consA (.ret (U.bl true)) (consA (.ret (.int 0)) (consA (lstW (consA (.ret (.str "game")) (consA (.ret (.str "place 0 0")) nilA))) (consA (tupW (consA (tupW (consA (.ret (.int 0)) nilA)) (consA (tupW (consA (.ret (.int 0)) nilA)) (consA (tupW (consA (tupW (consA (.ret (.int 0)) (consA (.ret (.int 0)) nilA))) nilA)) nilA)))) (consA (.ret (.dct [] [])) (consA (.ret (.str "")) (consA (.ret (.str "\n")) (consA (.ret (.str " ")) (consA (.ret (.str "game ")) nilA))))))))))) fun some_15 => (rtO (op1 allU (lcW (itW (.ret some_15)) (fun thing_16 => (.ret true)) fun thing_16 => (op2 eqU (callM (L1 m__law_told) (consA (.ret thing_16) nilA)) (tupW (consA (.ret (.str "text")) (consA (.ret (.int 0)) nilA)))))))))))
theorem w_law {P : Program} {w : World} {K : PySem.W.Frag} {mg : Str → Option Value} {bs : Heap} (N : En w K mg) : FnG P w K mg bs CX0 10 (He.ga K "law") N.fd_law ["_law_script"] (spM ⟨K, He.ga K⟩ (L1 m_law)) :=
  fn_ok N.F_law sc_law (ar1 fun _ => rfl) fun cv A o s H E gd hr => ⟨_, PSs.nox (pss_cons (ps_set (i := 1) sc_law.nd rfl (.inl rfl) (pe_call (w__law_hand N) (hr.mono (by decide)) (by rfl) N.g__law_hand N.F__law_hand.kp N.b__law_hand .nil pass0 (pa_cons (pv 0) pa_nil)))
 (pss_cons (ps_set (i := 2) sc_law.nd rfl (.inl rfl) (pe_lst (pa_cons pe_str (pa_cons pe_str (pa_cons pe_str (pa_cons pe_str (pa_cons pe_str (pa_cons pe_str (pa_cons pe_str pa_nil)))))))))
 (pss_cons (ps_for PassesOwn.never rfl (pi_range1 (by rfl) N.m_range (pa_cons pe_int pa_nil)) (pg_name (i := 3) sc_law.nd rfl (.inl rfl))
 (pss_cons (ps_set (i := 4) sc_law.nd rfl (.inl rfl) (pe_call (w__law_game_text N) (hr.mono (by decide)) (by rfl) N.g__law_game_text N.F__law_game_text.kp N.b__law_game_text .nil pass0 (pa_cons (pe_call (w__law_game N) (hr.mono (by decide)) (by rfl) N.g__law_game N.F__law_game.kp N.b__law_game .nil pass0 (pa_cons (pv 1) (pa_cons pe_int pa_nil))) pa_nil)))
 (pss_one (ps_for PassesOwn.never rfl (pi_range1 (by rfl) N.m_range (pa_cons pe_int pa_nil)) (pg_name (i := 5) sc_law.nd rfl (.inl rfl))
 (pss_cons (ps_set (i := 6) sc_law.nd rfl (.inl rfl) (pv 4))
 (pss_cons (ps_for PassesOwn.never rfl (pi_range1 (by rfl) N.m_range (pa_cons (pe_ifExp (pt_cmpR op_gt (pv 5) pe_int (nomark _)) (pe_call (w__law_of N) (hr.mono (by decide)) (by rfl) N.g__law_of N.F__law_of.kp N.b__law_of .nil pass0 (pa_cons (pv 1) (pa_cons (pe_lst (pa_cons pe_int (pa_cons pe_int (pa_cons pe_int (pa_cons pe_int pa_nil))))) pa_nil))) pe_int) pa_nil)) (pg_name (i := 7) sc_law.nd rfl (.inl rfl))
 (pss_one (ps_set (i := 6) sc_law.nd rfl (.inl rfl) (pe_call (w__law_spoilt N) (hr.mono (by decide)) (by rfl) N.g__law_spoilt N.F__law_spoilt.kp N.b__law_spoilt .nil pass0 (pa_cons (pv 1) (pa_cons (pv 6) (pa_cons (pv 2) pa_nil)))))))
 (pss_one (ps_if (pt_cmpR (op_neK K hr.units) (pe_callB (call_reprEK N.sysd gd (rm66 hr)) (by rfl) N.m_repr (by decide +kernel) (pa_cons (pe_call (w__law_told N) (hr.mono (by decide)) (by rfl) N.g__law_told N.F__law_told.kp N.b__law_told .nil pass0 (pa_cons (pv 6) pa_nil)) pa_nil)) (pe_callB (call_reprEK N.sysd gd (rm66 hr)) (by rfl) N.m_repr (by decide +kernel) (pa_cons (pe_call (w__law_due N) (hr.mono (by decide)) (by rfl) N.g__law_due N.F__law_due.kp N.b__law_due .nil pass0 (pa_cons (pv 6) pa_nil)) pa_nil)) (nomark _))
 (pss_one (ps_ret pe_bl))
 pss_nil))))))))
 (pss_cons (ps_set (i := 8) sc_law.nd rfl (.inl rfl) (pe_lst (pa_cons pe_non (pa_cons pe_bl (pa_cons pe_int (pa_cons (pe_lst (pa_cons pe_str (pa_cons pe_str pa_nil))) (pa_cons (pe_tup (pa_cons (pe_tup (pa_cons pe_int pa_nil)) (pa_cons (pe_tup (pa_cons pe_int pa_nil)) (pa_cons (pe_tup (pa_cons (pe_tup (pa_cons pe_int (pa_cons pe_int pa_nil))) pa_nil)) pa_nil)))) (pa_cons pe_dnewK (pa_cons pe_str (pa_cons pe_str (pa_cons pe_str (pa_cons pe_str pa_nil))))))))))))
 (pss_one (ps_ret (pe_callB (cr_allK K rfl) (by rfl) N.m_all (by decide +kernel) (pa_cons (pe_lc (own := [("_law_thing", 6)]) (by rfl) sc_law.nd (pi_seqK K (pv 8)) (blkOk_by (own := [("_law_thing", 6)]) (N := N_law) (sc := defScope s_law) (by decide +kernel)) (fun _ _ _ _ _ => (pg_name (i := 6) sc_law.nd rfl (.inl rfl))) (fun _ _ _ _ _ => pts_nil) (fun _ _ _ _ _ => (pe_cmpR (op_eqK K hr.units) (pe_call (w__law_told N) (hr.mono (by decide)) (by rfl) N.g__law_told N.F__law_told.kp N.b__law_told .nil pass0 (pa_cons (pv 6) pa_nil)) (pe_tup (pa_cons pe_str (pa_cons pe_int pa_nil))) (nomark _)))) pa_nil)))))))),
   fun B H0 as0 => ar1 fun script_1 => ⟨_, rfl,
 (blk_set (i := 1) (ev_call (ea_cons (ev_var (i := 0) rfl) ea_nil)) fun hand_here_2 =>
 (blk_set (i := 2) (EvN.ew (en_lst (ea_cons ev_str (ea_cons ev_str (ea_cons ev_str (ea_cons ev_str (ea_cons ev_str (ea_cons ev_str (ea_cons ev_str ea_nil))))))))) fun heads_3 =>
 (blk_seq (blk_forL (S := Unit) [3, 4, 5, 6, 7] [3] (fun s_4 => [some (.im script_1), some (.im hand_here_2), some (.im heads_3), none, none, none, none, none, none]) (by rfl) (src_range1 (EvW.r ev_int))
 (fun s_4 turn_5 st r q => ⟨_, tg_name (by decide), (blk_set (i := 4) (ev_call (ea_cons (ev_call (ea_cons (ev_var (i := 1) rfl) (ea_cons ev_int ea_nil))) ea_nil)) fun text_6 =>
 (blk_last (blk_seq (blk_forL (S := Unit) [5, 6, 7] [5] (fun s_7 => [some (.im script_1), some (.im hand_here_2), some (.im heads_3), some (.im turn_5), some (.im text_6), none, none, none, none]) (by rfl) (src_range1 (EvW.r ev_int))
 (fun s_7 change_8 st r q => ⟨_, tg_name (by decide), (blk_set (i := 6) (ev_var (i := 4) rfl) fun thing_9 =>
 (blk_seq (blk_forL (S := U) [7] [7] (fun s_10 => [some (.im script_1), some (.im hand_here_2), some (.im heads_3), some (.im turn_5), some (.im text_6), some (.im change_8), some (.im s_10), none, none]) (by rfl) (src_range1 (EvW.r (ev_if (et_test (EvW.r (ev_op ok_gt (EvW.r (ev_var (i := 5) rfl)) (EvW.r ev_int)))) (ev_call (ea_cons (ev_var (i := 1) rfl) (ea_cons (EvN.ew (en_lst (ea_cons ev_int (ea_cons ev_int (ea_cons ev_int (ea_cons ev_int ea_nil)))))) ea_nil))) ev_int)))
 (fun s_10 k_11 st r q => ⟨_, tg_name (by decide), (blk_last (blk_set (i := 6) (ev_call (ea_cons (ev_var (i := 1) rfl) (ea_cons (ev_var (i := 6) rfl) (ea_cons (ev_var (i := 2) rfl) ea_nil)))) fun thing_12 =>
 (blk_fin [7] (by rfl))))⟩)) fun s_10 =>
 (blk_if (et_test (EvW.r (ev_op ok_ne (EvW.r (ev_cb1 ok_reprE (EvW.r (ev_call (ea_cons (ev_var (i := 6) rfl) ea_nil))))) (EvW.r (ev_cb1 ok_reprE (EvW.r (ev_call (ea_cons (ev_var (i := 6) rfl) ea_nil))))))))
 (blk_ret (EvW.f ev_bl))
 (blk_fin [5, 6, 7] (by rfl)))))⟩)) fun s_7 =>
 (blk_fin [3, 4, 5, 6, 7] (by rfl)))))⟩)) fun s_4 =>
 (blk_set (i := 8) (EvN.ew (en_lst (ea_cons ev_non (ea_cons ev_bl (ea_cons ev_int (ea_cons (EvN.ew (en_lst (ea_cons ev_str (ea_cons ev_str ea_nil)))) (ea_cons (ev_tup (ea_cons (ev_tup (ea_cons ev_int ea_nil)) (ea_cons (ev_tup (ea_cons ev_int ea_nil)) (ea_cons (ev_tup (ea_cons (ev_tup (ea_cons ev_int (ea_cons ev_int ea_nil))) ea_nil)) ea_nil)))) (ea_cons (EvN.ew en_dK) (ea_cons ev_str (ea_cons ev_str (ea_cons ev_str (ea_cons ev_str ea_nil)))))))))))) fun some_15 =>
 (blk_ret (EvW.f (ev_cb1 ok_all (EvW.r (EvN.ew (en_lc (by rfl) (src_it (ev_var (i := 8) rfl)) fun thing_16 st r q => ⟨_, tg_name (by decide), et_yes, (ev_op ok_eq (EvW.r (ev_call (ea_cons (ev_var (i := 6) rfl) ea_nil))) (EvW.r (ev_tup (ea_cons ev_str (ea_cons ev_int ea_nil)))))⟩))))))))))⟩⟩
local macro_rules | `(tactic| walk_at "v1") => `(tactic| with_reducible first
  | refine vs_ret ?_ | refine vs_o ?_ | refine wo_some ?_ | refine Wp.bind ?_ | refine vs_op2 ?_ | refine vs_op1 ?_ | refine vs_test ?_ | refine vs_not ?_ | refine vs_and ?_ | refine vs_or ?_ | refine vs_andW ?_ | refine vs_orW ?_ | refine vs_ite ?_ | refine vs_chain ?_
  | refine vs_consA ?_ | refine vs_nilA ?_ | refine vs_tup ?_ | refine vs_lst ?_ | refine vs_call ?_ | refine vs_meth ?_ | refine vs_L1 ?_ | refine vs_L2 ?_ | refine vs_L3 ?_ | refine vs_L4 ?_ | refine vs_L5 ?_ | refine vs_L6 ?_ | refine vs_L0 ?_
  | refine vs_seq ?_ | refine sk_nx ?_ | refine sk_rt ?_ | refine sk_bk ?_ | refine sk_ct ?_ | refine fk_rt ?_ | refine fk_nx ?_ | refine ok_nx ?_ | refine ok_ct ?_ | refine ok_bk ?_ | refine ok_rt ?_ | refine vs_rt ?_ | refine vs_nx ?_ | refine vs_fn ?_
  | refine vs_noP ?_ | refine vs_someP ?_ | refine vs_sl ?_ | refine vs_it ?_ | refine vs_rng1 ?_ | refine vs_rng2 ?_ | refine vs_zip ?_ | refine vs_un2 ?_ | refine vs_un3 ?_ | refine vs_un4 ?_ | refine vs_un5 ?_ | refine vs_un6 ?_ | refine vs_lc ?_ | refine vs_lc2 ?_ | refine vs_bind2 ?_ | refine vs_bindS ?_ | refine vs_enum ?_ | refine vs_keys ?_ | refine vs_tupR ?_ | refine vs_lstR ?_ | refine vs_xitem ?_ | refine vs_itX ?_ | refine vs_keysN ?_ | refine vs_un22 ?_ | refine vs_un21 ?_
  | refine if_t ?_ | refine if_f ?_ | refine if_nt ?_ | refine if_nf ?_
  | refine wo_add_i ?_ | refine wo_sub ?_ | refine wo_neg ?_ | refine wo_le ?_ | refine wo_lt ?_ | refine wo_gt ?_ | refine wo_ge ?_ | refine wo_eq_i ?_ | refine wo_ne_i ?_ | refine wo_eq_s ?_ | refine wo_ne_s ?_ | refine wo_not ?_ | refine wo_bool ?_ | refine wo_int ?_
  | refine wo_len_t ?_ | refine wo_len_l ?_ | refine wo_len_f ?_ | refine wo_tuple_l ?_ | refine wo_tuple_t ?_ | refine wo_list_l ?_ | refine wo_list_t ?_ | refine wo_it_t ?_ | refine wo_it_l ?_ | refine wo_it_f ?_ | refine wo_sl_t ?_ | refine wo_sl_l ?_ | refine wo_zip_tt ?_ | refine wo_enum_t ?_ | refine wo_enum_l ?_ | refine wo_in_t ?_ | refine wo_in_l ?_ | refine wo_nin_t ?_ | refine wo_nin_l ?_ | refine wo_eq_b ?_ | refine wo_ne_b ?_ | refine wo_dTin ?_ | refine wo_dTnin ?_ | refine wo_dTkeys ?_)
local macro_rules | `(tactic| walk_at "v2") => `(tactic| first
  | refine ⟨lit_le rfl, ?_⟩
  | (with_reducible refine wo_mul (by omega) ?_) | (with_reducible refine wo_modp (by omega) ?_) | (with_reducible refine wo_mod (by omega) ?_) | (with_reducible refine wo_fdiv (by omega) (by omega) ?_)
  | (with_reducible refine wo_rng1 ⟨by omega, by omega⟩ ?_) | (with_reducible refine wo_rng2 ⟨by omega, by omega⟩ ⟨by omega, by omega⟩ ?_)
  | (with_reducible refine wo_ix_t rfl ?_) | (with_reducible refine wo_ix_l rfl ?_) | (with_reducible refine wo_ix0 ?_) | (with_reducible refine wo_ix1 ?_) | (with_reducible refine wo_ix2 ?_) | (with_reducible refine wo_isObj rfl ?_) | (with_reducible refine wo_fld rfl ?_))
local macro_rules | `(tactic| walk_at "v") => `(tactic| repeat (first | walk_at "v1" | walk_at "v2"))
abbrev hs (cs : List Int) (s : Int) : Sto := [.lst [.lst (cs.map .int), .int s]]
def Hd (st : Sto) : Prop := ∃ (cs : List Int) (s : Int), st = hs cs s ∧ 0 ≤ s ∧ s < 2305843009213693951
abbrev c0 : M Cl := .bind (.bind (.ret (.loc 0)) locM) fun c => .bind (.ret (.int 0)) fun n => .o (ixC c n)
theorem c0_at (cs : List Int) (s : Int) : c0 (hs cs s) = some (.ok (0, (.lst (cs.map .int), fun x => .lst [x, .int s])), hs cs s) := rfl
theorem ixN0 (n : Nat) : ixN (n + 1) 0 = some 0 := by unfold ixN; rw [if_pos (by omega), if_pos (by omega)]; rfl
theorem ixC0 (i : Nat) (u : U) (us : List U) (f : U → U) : ixC (i, (.lst (u :: us), f)) (.int 0) = some (i, (u, fun x => f (.lst (x :: us)))) := by
  simp only [ixC, ixH, List.length_cons, ixN0]
  rfl
theorem c00_at (c : Int) (cs : List Int) (s : Int) : (M.bind c0 fun c => .bind (.ret (.int 0)) fun n => .o (ixC c n)) (hs (c :: cs) s) = some (.ok (0, (.int c, fun x => .lst [.lst (x :: cs.map .int), .int s])), hs (c :: cs) s) := by
  rw [M.bind_of (c0_at (c :: cs) s)]
  show M.o (ixC (0, (.lst (.int c :: cs.map .int), fun x => .lst [x, .int s])) (.int 0)) _ = _
  rw [ixC0]; rfl
theorem v00_at (c : Int) (cs : List Int) (s : Int) : (M.bind (M.bind c0 fun c => .bind (.ret (.int 0)) fun n => .o (ixC c n)) fun c => .o (valC c)) (hs (c :: cs) s) = some (.ok (.int c), hs (c :: cs) s) := by
  rw [M.bind_of (c00_at c cs s)]; rfl
theorem pick_ok {m : Int} {st : Sto} (h : Hd st) (h0 : 0 < m) (h1 : m ≤ 1000000000) : Wp (m__law_pick (.loc 0) (.int m)) st fun u s => ∃ k : Int, u = .int k ∧ 0 ≤ k ∧ k < m ∧ Hd s := by
  obtain ⟨cs, s, rfl, b0, b1⟩ := h
  unfold m__law_pick
  refine .fn (.seq (Wp.mono (Q := fun o st => ∃ cs : List Int, o = .nx () ∧ st = hs cs s ∧ ∀ c r, cs = c :: r → c ≠ 0) (Wp.while (L := Unit) (fun n _ st => ∃ cs : List Int, n = cs.length ∧ st = hs cs s) ?_ (n := cs.length) ⟨cs, rfl, rfl⟩) ?_))
  · rintro n u _ ⟨cs, rfl, rfl⟩
    refine .and (.test (.eq (a := .bl (!cs.isEmpty)) (s := hs cs s) ?_ ⟨_, rfl, ?_⟩))
    · rw [M.bind_of (c0_at cs s)]
      show M.o (neU (.lst (cs.map .int)) (.lst [])) _ = _
      rw [neU_nil]; rfl
    cases cs with
    | nil => exact ⟨[], rfl, rfl, fun _ _ e => nomatch e⟩
    | cons c cs =>
      refine .test (.op2 (.eq (v00_at c cs s) (.ret ⟨_, eqU_int c 0, _, rfl, ?_⟩)))
      by_cases hc : c = 0
      · rw [decide_eq_true hc]
        refine .bind (.eq (c0_at (c :: cs) s) (.bind (.ret (.bind (.o (a := (.int c, (0, (.lst [.lst (cs.map .int), .int s], id)))) ?_ (.bind (.eq (a := ()) (s := hs cs s) rfl (.nx ⟨cs.length, by simp, cs, rfl, rfl⟩))))))))
        have hl : (List.map U.int (c :: cs)).all leafU = true := leaf_ints _
        have hl2 : (List.map U.int cs).all leafU = true := leaf_ints _
        simp only [mutC, hl, popAtL, List.map_cons, List.length_cons]
        simp [seqIndex?, leafU, hl2]
      · rw [decide_eq_false hc]
        exact ⟨c :: cs, rfl, rfl, fun _ _ e => by cases e; exact hc⟩
  · rintro o _ ⟨cs, rfl, rfl, hz⟩
    show Wp _ _ _
    refine .seq (.ite (.test (.eq (a := .bl (!cs.isEmpty)) (s := hs cs s) ?_ ⟨_, rfl, ?_⟩)))
    · rw [M.bind_of (c0_at cs s)]
      show M.o (neU (.lst (cs.map .int)) (.lst [])) _ = _
      rw [neU_nil]; rfl
    cases cs with
    | nil =>
      show Wp (nxO ()) _ _
      refine .nx ?_
      show Wp _ _ _
      have hm : CMul s 3935559000370003 := .inl (by omega)
      refine .bind (.op2 (.op2 (.op2 (.eq (a := .int s) (s := hs [] s) rfl (.ret ⟨_, mul_at hm, .ret ⟨_, rfl, .ret ⟨_, mod_at (by decide), ?_⟩⟩⟩)))))
      generalize e1 : (s * 3935559000370003 + 2691343689449507).fmod 2305843009213693951 = s1
      have k0 : 0 ≤ s1 := by rw [← e1]; exact Int.fmod_nonneg_of_pos _ (by decide)
      have k1 : s1 < 2305843009213693951 := by rw [← e1]; exact Int.fmod_lt_of_pos _ (by decide)
      refine .bind (.eq (a := (0, (_, id))) (s := hs [] s) rfl (.bind (.ret (.bind (.o (a := (0, (.lst [.lst [], .int s1], id))) rfl (.bind (.eq (a := ()) (s := hs [] s1) rfl ?_)))))))
      refine .bind (.op2 (.eq (a := .int s1) (s := hs [] s1) rfl (.ret ⟨_, fdiv_at (by decide) (by decide), ?_⟩)))
      generalize e2 : s1.fdiv 65537 = x
      have x0 : 0 ≤ x := by rw [← e2]; exact Int.fdiv_nonneg k0 (by decide)
      have x1 : x < 2305843009213693951 := by
        rw [← e2, Int.fdiv_eq_ediv_of_nonneg _ (by decide)]
        omega
      have hm2 : CMul x (x.fmod 8191 + 3) := .inl (by omega)
      refine .rt (.op2 (.op2 (.op2 (.op2 (.ret (.op2 (.op2 (.ret (.ret ⟨_, mod_at (by decide), .ret ⟨_, rfl, ⟨_, mul_at hm2, .ret ⟨_, mod_at (by decide), .ret ⟨_, fdiv_at (by decide) (by decide), .ret ⟨_, mod_at (by omega), ?_⟩⟩⟩⟩⟩⟩)))))))))
      exact ⟨_, rfl, Int.fmod_nonneg_of_pos _ h0, Int.fmod_lt_of_pos _ h0, [], s1, rfl, k0, k1⟩
    | cons c cs =>
      show Wp (M.bind _ _) _ _
      refine .bind (.op2 (.eq (v00_at c cs s) (.ret ⟨_, mod_at (by omega), ?_⟩)))
      refine .bind (.op2 (.eq (v00_at c cs s) (.ret ⟨_, fdiv_at (by omega) (by omega), ?_⟩)))
      refine .bind (.eq (c0_at (c :: cs) s) (.bind (.ret (.bind (.o (a := (0, (.lst [.lst (.int (c.fdiv m) :: cs.map .int), .int s], id))) ?_ (.bind (.eq (a := ()) (s := hs (c.fdiv m :: cs) s) rfl (.rt (.ret ?_)))))))))
      · simp only [setItC, List.map_cons, List.length_cons, ixN0]
        rfl
      · exact ⟨_, rfl, Int.fmod_nonneg_of_pos _ h0, Int.fmod_lt_of_pos _ h0, _, s, rfl, b0, b1⟩
theorem hand_ok {ns : List Int} (h : ns.length ≤ 63) : Wp (m__law_hand (.frl (ns.map .int))) [] fun u st => u = .loc 0 ∧ Hd st := by
  unfold m__law_hand
  have isI : ∀ (i : Nat) (u : U), (EL.cut (ns.map U.int) none (some 63))[i]? = some u → ∃ c : Int, u = .int c := fun i u e => by
    obtain ⟨c, _, rfl⟩ := List.mem_map.mp (EL.cut_sub (List.mem_of_getElem? e))
    exact ⟨c, rfl⟩
  have src : ∀ {Q : List U → Sto → Prop}, Q (EL.cut (ns.map U.int) none (some 63)) [] → Wp (itW (slW (.ret (.frl (ns.map .int))) noP (someP (.ret (.int 63))))) [] Q := fun q => ⟨_, _, rfl, q⟩
  refine .fn (.bind (.ret (.seq (.bind (src (Wp.for (fun _ s st => ∃ k : Int, s = .int k ∧ 0 ≤ k ∧ k < 2305843009213693951 ∧ st = []) ⟨23, rfl, by decide, by decide, rfl⟩ ?_ ?_))))))
  · rintro i u s st e ⟨k, rfl, k0, k1, rfl⟩
    obtain ⟨c, rfl⟩ := isI i u e
    have hm : CMul k 6364136223846793 := .inl (by omega)
    refine .bind (.op2 (.op2 (.op2 (.op2 (.ret (.ret ⟨_, mul_at hm, .op2 (.ret (.ret ⟨_, mod_at (by decide), ⟨_, rfl, .ret ⟨_, rfl, .ret ⟨_, mod_at (by decide), .nx ?_⟩⟩⟩⟩))⟩))))))
    exact ⟨_, rfl, Int.fmod_nonneg_of_pos _ (by decide), Int.fmod_lt_of_pos _ (by decide), rfl⟩
  · rintro s st ⟨k, rfl, k0, k1, rfl⟩
    show Wp _ _ _
    refine .rt (.bind (.lst (.consA (.bind (.lc (src (Wp.comp (fun i r st => r.length ≤ i ∧ (∃ cs : List Int, r = cs.map .int) ∧ st = []) ⟨Nat.le_refl _, ⟨[], rfl⟩, rfl⟩ ?_ ?_)))))))
    · rintro i u r st e ⟨hl, ⟨cs, rfl⟩, rfl⟩
      obtain ⟨c, rfl⟩ := isI i u e
      refine .test (.op2 (.ret (.op2 (.ret (.ret ⟨_, pow_at (i := 10) (j := 18) ⟨by decide, by decide, by decide⟩, _, rfl, _, rfl, ?_⟩)))))
      split
      · exact .ret ⟨by rw [List.length_append]; simpa using hl, ⟨cs ++ [c], by simp⟩, rfl⟩
      · exact ⟨by omega, ⟨cs, rfl⟩, rfl⟩
    · rintro r st ⟨hl, ⟨cs, rfl⟩, rfl⟩
      have hlen : (cs.map U.int).length ≤ sizeLine := by
        have h1 := EL.cut_len (xs := ns.map U.int) (lo := none) (hi := some 63)
        rw [List.length_map] at h1
        have : (63 : Nat) ≤ sizeLine := by decide
        omega
      refine ⟨hlen, .o (a := .lst (cs.map .int)) ?_ (.consA (.bind (.ret (.o (a := .int k) rfl (.nilA ⟨(by decide : 2 ≤ sizeLine), .bind (.o (a := _) rfl ⟨_, _, rfl, rfl, cs, k, rfl, k0, k1⟩)⟩)))))⟩
      simp only [flatO, leaf_ints, if_true]
theorem tk {m : Int} {st : Sto} {Q : U → Sto → Prop} (h : Hd st) (h0 : 0 < m) (h1 : m ≤ 1000000000) (k : ∀ (k : Int) (s : Sto), 0 ≤ k → k < m → Hd s → Q (.int k) s) : Wp (m__law_pick (.loc 0) (.int m)) st Q :=
  (pick_ok h h0 h1).mono fun _ s ⟨a, e, a0, a1, hs⟩ => e ▸ k a s a0 a1 hs
def okC (z : Str) : Prop := ∀ c ∈ z.cps.toList, c < 1114112
theorem okC_app {a b : Str} (ha : okC a) (hb : okC b) : okC (a ++ b) := fun c m => by
  have m : c ∈ (a.cps ++ b.cps).toList := m
  rw [Array.toList_append] at m
  exact (List.mem_append.mp m).elim (ha c) (hb c)
theorem okC_of (s : String) : okC (Str.ofString s) := fun c m => by
  rw [Str.ofString_eq_toList] at m
  simp only at m
  obtain ⟨x, _, rfl⟩ := List.mem_map.mp m
  have := x.valid
  rcases this with h | ⟨_, h⟩
  · show x.val.toNat < _
    have : x.val.toNat < 0xd800 := h
    omega
  · show x.val.toNat < _
    have : x.val.toNat < 0x110000 := h
    omega
theorem okC_join {s : Str} (hs : okC s) : ∀ {ts : List Str}, (∀ t ∈ ts, okC t) → okC (Str.join s ts)
  | [], _ => fun c m => nomatch m
  | [t], h => h t (by simp)
  | t :: t2 :: ts, h => by
    have := okC_join hs (ts := t2 :: ts) fun x m => h x (List.mem_cons_of_mem _ m)
    exact okC_app (okC_app (h t List.mem_cons_self) hs) this
theorem app_mem {a b : Str} {c : Nat} : c ∈ (a ++ b).cps.toList ↔ c ∈ a.cps.toList ∨ c ∈ b.cps.toList := by
  show c ∈ (a.cps ++ b.cps).toList ↔ _
  rw [Array.toList_append, List.mem_append]
theorem mem_join {s : Str} {c : Nat} : ∀ {ts : List Str} {t : Str}, t ∈ ts → c ∈ t.cps.toList → c ∈ (Str.join s ts).cps.toList
  | [], _, m, _ => nomatch m
  | [t'], t, m, h => by rw [List.mem_singleton.mp m] at h; exact h
  | t' :: t2 :: ts, t, m, h => by
    show c ∈ (t' ++ s ++ Str.join s (t2 :: ts)).cps.toList
    rw [app_mem, app_mem]
    rcases List.mem_cons.mp m with rfl | m
    · exact .inl (.inl h)
    · exact .inr (mem_join m h)
theorem okC_part {x y a : Str} (h : a ∈ Txt.split x y) (hx : okC x) : okC a := fun c m => hx c (by rw [← StrLaws.join_split x y]; exact mem_join h m)
theorem okC_slice {x : Str} (hx : okC x) (l u : Option Int) : okC (Txt.slice x l u) := by
  unfold Txt.slice
  split
  · exact hx
  · intro c m
    have m : c ∈ (((Builtin.Str.strSliceIndices l u 1 x.length).filterMap (x.cps[·]?)).toArray).toList := m
    rw [List.toList_toArray] at m
    obtain ⟨i, _, e⟩ := List.mem_filterMap.mp m
    exact hx c (by rw [Array.mem_toList_iff]; exact Array.mem_of_getElem? e)
theorem okC_one {x : Str} (hx : okC x) {c : Nat} (m : c ∈ x.cps.toList) : okC ⟨#[c]⟩ := fun d md => by
  have : d = c := by simpa using md
  rw [this]; exact hx c m
theorem okC_empty : okC (Str.ofString "") := okC_of _
def sz : U → Nat
  | .str z => z.length + 1
  | _ => 0
def wt (us : List U) : Nat := (us.map sz).sum
def Ss (us : List U) : Prop := ∀ u ∈ us, ∃ z : Str, u = .str z ∧ okC z
theorem wt_app (a b : List U) : wt (a ++ b) = wt a + wt b := by unfold wt; rw [List.map_append, List.sum_append]
theorem wt_take (a : List U) (n : Nat) : wt (a.take n) ≤ wt a := by
  have := wt_app (a.take n) (a.drop n)
  rw [List.take_append_drop] at this; omega
theorem wt_drop (a : List U) (n : Nat) : wt (a.drop n) ≤ wt a := by
  have := wt_app (a.take n) (a.drop n)
  rw [List.take_append_drop] at this; omega
theorem wt_cut (a : List U) (lo hi : Option Int) : wt (EL.cut a lo hi) ≤ wt a := Nat.le_trans (wt_take _ _) (wt_drop _ _)
theorem wt_rev (a : List U) : wt a.reverse = wt a := by unfold wt; rw [List.map_reverse, List.sum_reverse]
theorem wt_one (z : Str) : wt [.str z] = z.length + 1 := by simp [wt, sz]
theorem wt_mem {a : List U} {z : Str} (m : U.str z ∈ a) : z.length + 1 ≤ wt a := by
  obtain ⟨p, q, e⟩ := List.append_of_mem m
  rw [e, wt_app]
  have : wt (.str z :: q) = z.length + 1 + wt q := by simp [wt, sz]
  omega
theorem Ss.app {a b : List U} (ha : Ss a) (hb : Ss b) : Ss (a ++ b) := fun u m => (List.mem_append.mp m).elim (ha u) (hb u)
theorem Ss.cut {a : List U} (h : Ss a) (lo hi : Option Int) : Ss (EL.cut a lo hi) := fun u m => h u (EL.cut_sub m)
theorem Ss.rev {a : List U} (h : Ss a) : Ss a.reverse := fun u m => h u (List.mem_reverse.mp m)
theorem Ss.one {z : Str} (h : okC z) : Ss [.str z] := fun u m => ⟨z, List.mem_singleton.mp m, h⟩
theorem Ss.cons {z : Str} {us : List U} (h : okC z) (hs : Ss us) : Ss (.str z :: us) := fun u m => (List.mem_cons.mp m).elim (fun e => ⟨z, e, h⟩) (hs u)
theorem Ss.map {ys : List Str} (h : ∀ y ∈ ys, okC y) : Ss (ys.map .str) := fun u m => by
  obtain ⟨y, my, rfl⟩ := List.mem_map.mp m
  exact ⟨y, rfl, h y my⟩
theorem Ss.len : ∀ {us : List U}, Ss us → us.length ≤ wt us
  | [], _ => Nat.le_refl _
  | u :: us, h => by
    obtain ⟨z, rfl, _⟩ := h u List.mem_cons_self
    have := Ss.len (us := us) fun x m => h x (List.mem_cons_of_mem _ m)
    have e : wt (.str z :: us) = z.length + 1 + wt us := by simp [wt, sz]
    rw [List.length_cons]; omega
theorem wt_map (ys : List Str) : wt (ys.map .str) = (ys.map (·.length)).sum + ys.length := by
  induction ys with
  | nil => rfl
  | cons y ys ih =>
    have e : wt ((y :: ys).map .str) = y.length + 1 + wt (ys.map .str) := by simp [wt, sz]
    rw [e, ih, List.map_cons, List.sum_cons, List.length_cons]; omega
theorem Ss.strs : ∀ {us : List U}, Ss us → ∃ ys : List Str, us = ys.map .str ∧ (∀ y ∈ ys, okC y)
  | [], _ => ⟨[], rfl, fun _ m => nomatch m⟩
  | u :: us, h => by
    obtain ⟨z, rfl, hz⟩ := h u List.mem_cons_self
    obtain ⟨ys, rfl, hy⟩ := Ss.strs (us := us) fun x m => h x (List.mem_cons_of_mem _ m)
    exact ⟨z :: ys, rfl, fun y m => (List.mem_cons.mp m).elim (fun e => e ▸ hz) (hy y)⟩
theorem unStr_strs : ∀ ys : List Str, unStr (ys.map .str) = some ys
  | [] => rfl
  | y :: ys => by rw [List.map_cons, unStr, unStr_strs ys]; rfl
theorem wo_split {a b : Str} {P : U → Prop} (hb : b.length = 1) (ha : a.length ≤ 1000000) (h : P (.lst ((Txt.split a b).map .str))) : WpO (splitU (.str a) (.str b)) P := by
  have : (1000002 : Nat) ≤ sizeLine := by decide
  exact ⟨_, if_pos ⟨by rw [hb]; rfl, by omega⟩, h⟩
theorem split_wt {a b : Str} (hb : b.length = 1) : wt ((Txt.split a b).map .str) ≤ a.length + 1 := by
  rw [wt_map]; exact PyProof.Rows.split_weight a b (by omega)
theorem split_ss {a b : Str} (ha : okC a) : Ss ((Txt.split a b).map .str) := .map fun _ m => okC_part m ha
theorem split_ne {a b : Str} : 0 < ((Txt.split a b).map U.str).length := by rw [List.length_map]; exact PyProof.Rows.split_pos a b
theorem wo_lenS {z : Str} {P : U → Prop} (h : z.length ≤ 1000000) (q : P (.int z.length)) : WpO (lenSU (.str z)) P := by
  have : (1000002 : Nat) ≤ sizeLine := by decide
  exact ⟨_, if_pos (by omega), q⟩
theorem wo_addS {a b : Str} {P : U → Prop} (h : a.length + b.length ≤ 1000000) (q : P (.str (a ++ b))) : WpO (addU (.str a) (.str b)) P := by
  have : (1000002 : Nat) ≤ sizeLine := by decide
  exact ⟨_, if_pos (by omega), q⟩
theorem app_len (a b : Str) : (a ++ b).length = a.length + b.length := Str.length_append a b
theorem wo_slS {z : Str} {l h : Option Int} {P : U → Prop} (hz : z.length ≤ 1000000) (q : P (.str (Txt.slice z l h))) : WpO (slSU (.str z) l h) P := by
  have : (1000002 : Nat) ≤ sizeLine := by decide
  exact ⟨_, if_pos (by omega), q⟩
theorem vs_slS {wa : M U} {wl wh : M (Option Int)} {st : Sto} {Q : U → Sto → Prop} (h : Wp wa st fun a s => Wp wl s fun l s => Wp wh s fun h s => WpO (slSU a l h) fun c => Q c s) : Wp (slSW wa wl wh) st Q :=
  .bind (h.mono fun _ _ h => .bind (h.mono fun _ _ h => .bind (h.mono fun _ _ h => vs_o h)))
theorem wo_addL {a b : List U} {P : U → Prop} (l : a.length + b.length ≤ 1000000) (h : P (.lst (a ++ b))) : WpO (addU (.lst a) (.lst b)) P := by
  have : (1000002 : Nat) ≤ sizeLine := by decide
  exact wo_add_l (by omega) h
theorem of_ok {us : List U} {st : Sto} {Q : U → Sto → Prop} (h : Hd st) (h0 : 0 < us.length) (h1 : us.length ≤ 1000000) (k : ∀ (u : U) (s : Sto), u ∈ us → Hd s → Q u s) : Wp (m__law_of (.loc 0) (.lst us)) st Q := by
  unfold m__law_of
  refine .fn (.rt (.op2 (.ret (.call (.consA (.ret (.consA (.op1 (.ret ⟨.int us.length, rfl, .nilA ?_⟩)))))))))
  refine (pick_ok h (by omega) (by omega)).mono ?_
  rintro _ s ⟨i, rfl, k0, k1, hs⟩
  have hk : i.toNat < us.length := by omega
  refine ⟨us[i.toNat], ?_, k _ _ (List.getElem_mem hk) hs⟩
  show atI us i = _
  unfold atI ixN
  rw [if_pos k0, if_pos (by omega)]
  exact List.getElem?_eq_getElem hk
theorem of_str {z : Str} {st : Sto} {Q : U → Sto → Prop} (h : Hd st) (h0 : 0 < z.length) (h1 : z.length ≤ 1000000) (oz : okC z) (k : ∀ (t : Str) (s : Sto), t.length = 1 → okC t → Hd s → Q (.str t) s) : Wp (m__law_of (.loc 0) (.str z)) st Q := by
  have hl : (1000002 : Nat) ≤ sizeLine := by decide
  unfold m__law_of
  refine .fn (.rt (.op2 (.ret (.call (.consA (.ret (.consA (.op1 (.ret ⟨.int z.length, if_pos (by omega), .nilA ?_⟩)))))))))
  refine (pick_ok h (by omega) (by omega)).mono ?_
  rintro _ s ⟨i, rfl, k0, k1, hs⟩
  have hzl : z.cps.toList.length = z.length := by simp [Str.length]
  have hk : i.toNat < z.cps.toList.length := by omega
  refine ⟨.str ⟨#[z.cps.toList[i.toNat]]⟩, ?_, k _ _ rfl (okC_one oz (List.getElem_mem hk)) hs⟩
  show (if z.length ≤ sizeLine then (atI z.cps.toList i).map fun c => U.str ⟨#[c]⟩ else none) = _
  rw [if_pos (by omega)]
  unfold atI ixN
  rw [if_pos k0, if_pos (by omega)]
  show (z.cps.toList[i.toNat]?).map _ = _
  rw [List.getElem?_eq_getElem hk]
  rfl
open NumText (AllDigits digitsVal)
def digs : Str := "0123456789"
theorem digs_at : digs.cps.toList = [48, 49, 50, 51, 52, 53, 54, 55, 56, 57] := by decide +kernel
def digB (z : Str) : Bool := z.cps.toList.all fun c => decide (c ∈ digs.cps.toList)
theorem digB_all {z : Str} (h : digB z = true) : AllDigits z.cps.toList := fun c m => by
  have := List.all_eq_true.mp h c m
  rw [decide_eq_true_eq, digs_at] at this
  simp at this
  omega
def zF (z : Str) : Bool := decide ((⟨#[z.cps.toList.headD 0]⟩ : Str) = "0")
def nd (z : Str) : Option Nat := if (1 ≤ z.length ∧ z.length ≤ 9) ∧ digB z = true then (if zF z = true ∧ z ≠ "0" then none else some (digitsVal z.cps.toList)) else none
def ndU (z : Str) : U := match nd z with
  | some n => .int (n : Int)
  | none => .non
theorem vs_itS {z : Str} {st : Sto} {Q : List U → Sto → Prop} (q : Q (z.cps.toList.map fun c => U.str ⟨#[c]⟩) st) : Wp (itSW (.ret (.str z))) st Q := ⟨_, _, rfl, q⟩
theorem wo_ixS0 {z : Str} {P : U → Prop} (h1 : 1 ≤ z.length) (h : z.length ≤ 1000000) (q : P (.str ⟨#[z.cps.toList.headD 0]⟩)) : WpO (ixSU (.str z) (.int 0)) P := by
  have hl : (1000002 : Nat) ≤ sizeLine := by decide
  have hzl : z.cps.toList.length = z.length := by simp [Str.length]
  refine ⟨_, ?_, q⟩
  show (if z.length ≤ sizeLine then (atI z.cps.toList 0).map fun c => U.str ⟨#[c]⟩ else none) = _
  rw [if_pos (by omega)]
  cases e : z.cps.toList with
  | nil => rw [e] at hzl; simp at hzl; omega
  | cons c cs =>
    show Option.map _ (((ixN (cs.length + 1) 0).bind fun j => (c :: cs)[j]?)) = _
    rw [ixN0]; rfl
theorem wo_intS {z : Str} {P : U → Prop} (h1 : 1 ≤ z.length ∧ z.length ≤ 9) (hd : digB z = true) (q : P (.int ((digitsVal z.cps.toList : Nat) : Int))) : WpO (intSU (.str z)) P := by
  have hzl : z.cps.toList.length = z.length := by simp [Str.length]
  refine ⟨_, ?_, q⟩
  show (if z.length ≤ 640 then (PySem.intText? z).map U.int else none) = _
  rw [if_pos (by omega), intText_digits (digB_all hd) (fun e => by rw [e] at hzl; simp at hzl; omega) (by omega)]
  rfl
theorem allb_at (bs : List Bool) : allU (.lst (bs.map .bl)) = some (.bl (bs.all id)) := by
  have : ∀ bs : List Bool, boolsU (bs.map U.bl) = some bs := by
    intro bs
    induction bs with
    | nil => rfl
    | cons b bs ih => rw [List.map_cons, boolsU, ih]; rfl
  show (boolsU (bs.map .bl)).map _ = _
  rw [this]; rfl
theorem all_digs {z : Str} (hz : z.length ≤ 1000000) {st : Sto} {Q : U → Sto → Prop} (q : Q (.bl (digB z)) st) : Wp (itSW (.ret (.str z))) st fun us s => Wp (compM (fun _ => (.ret true)) (fun figure_2 => (op2 inTU (.ret figure_2) (.ret (.str "0123456789")))) us) s fun r s => r.length ≤ sizeLine ∧ WpO (allU (.lst r)) fun c => Q c s := by
  refine vs_itS ?_
  have := comp_eq (c := fun n : Nat => U.str ⟨#[n]⟩) (d := U.bl) (wt := fun _ => (.ret true)) (we := fun figure_2 => (op2 inTU (.ret figure_2) (.ret (.str "0123456789")))) (p := fun _ => true) (g := fun n => decide (n ∈ digs.cps.toList)) (xs := z.cps.toList) fun x m => ⟨rfl, fun _ => rfl⟩
  refine vs_eq this ?_
  rw [List.filter_eq_self.mpr (fun _ _ => rfl)]
  have hl : (1000002 : Nat) ≤ sizeLine := by decide
  have hzl : z.cps.toList.length = z.length := by simp [Str.length]
  refine ⟨by rw [List.length_map, List.length_map]; omega, ?_⟩
  refine wo_eq (allb_at _) ?_
  rw [List.all_map]
  exact q
theorem number_ok {z : Str} (h : z.length ≤ 1000000) : m_number_of (.str z) = .ret (ndU z) := by
  refine eq_of_wp fun st => ?_
  unfold m_number_of
  walk_at "v"
  refine wo_lenS h ?_
  walk_at "v"
  have e0 : ∀ {Q : U → Prop}, ¬ ((1 ≤ z.length ∧ z.length ≤ 9) ∧ digB z = true) → Q .non → Q (ndU z) := fun h q => by
    unfold ndU nd; rw [if_neg h]; exact q
  refine if_any (fun q1 => ?_) fun q1 => ?_
  · walk_at "v"
    refine if_any (fun q2 => ?_) fun q2 => ?_
    · walk_at "v"
      exact ⟨e0 (fun q => by simp at q2; omega) rfl, rfl⟩
    · walk_at "v"
      refine all_digs h ?_
      walk_at "v"
      refine if_any (fun q3 => ?_) fun q3 => ?_
      · walk_at "v"
        exact ⟨e0 (fun q => by rw [q.2] at q3; cases q3) rfl, rfl⟩
      · have hd : digB z = true := by simpa using q3
        have h9 : 1 ≤ z.length ∧ z.length ≤ 9 := by simp at q1 q2; omega
        have e1 : ndU z = if zF z = true ∧ z ≠ "0" then .non else .int ((digitsVal z.cps.toList : Nat) : Int) := by
          unfold ndU nd; rw [if_pos ⟨h9, hd⟩]
          by_cases c : zF z = true ∧ z ≠ "0"
          · rw [if_pos c, if_pos c]
          · rw [if_neg c, if_neg c]
        rw [e1]
        walk_at "v"
        refine wo_ixS0 h9.1 h ?_
        walk_at "v"
        refine if_any (fun q4 => ?_) fun q4 => ?_
        · walk_at "v"
          refine if_any (fun q5 => ?_) fun q5 => ?_
          · walk_at "v"
            rw [if_pos ⟨q4, by simpa using q5⟩]
            exact ⟨rfl, rfl⟩
          · walk_at "v"
            refine wo_intS h9 hd ?_
            rw [if_neg (fun q => by simp [q.2] at q5)]
            exact ⟨rfl, rfl⟩
        · walk_at "v"
          refine wo_intS h9 hd ?_
          rw [if_neg (fun q => by have := q.1; unfold zF at this; rw [this] at q4; cases q4)]
          exact ⟨rfl, rfl⟩
  · walk_at "v"
    exact ⟨e0 (fun q => by simp at q1; omega) rfl, rfl⟩
def ndsU (ys : List Str) : U := if (ys.any fun y => (nd y).isNone) = true then .non else .tup (ys.map ndU)
def ndV (z : Str) : V := match nd z with
  | some n => .int (n : Int)
  | none => .non
theorem fVs_nd : ∀ ys : List Str, fVs (ys.map ndU) = some (ys.map ndV)
  | [] => rfl
  | y :: ys => by
    have e : fV (ndU y) = some (ndV y) := by unfold ndU ndV; cases nd y <;> rfl
    rw [List.map_cons, fVs, fVs_nd ys, e]
    rfl
theorem in_non (ys : List Str) : inSU .non (.tup (ys.map ndU)) = some (.bl (ys.any fun y => (nd y).isNone)) := by
  have : inB .non (.tup (ys.map ndU)) = some (ys.any fun y => (nd y).isNone) := by
    show (fVs (ys.map ndU)).map _ = _
    rw [fVs_nd]
    show some ((ys.map ndV).any fun y => eqV y .non) = _
    rw [List.any_map]
    congr 2
    funext y
    show eqV (ndV y) .non = _
    unfold ndV
    cases nd y <;> rfl
  unfold inSU
  rw [this]; rfl
theorem numbers_ok {ys : List Str} (h : ∀ y ∈ ys, y.length ≤ 1000000) (hl : ys.length ≤ 1000000) : m_numbers_of (.lst (ys.map .str)) = .ret (ndsU ys) := by
  have sl : (1000002 : Nat) ≤ sizeLine := by decide
  refine eq_of_wp fun st => ?_
  unfold m_numbers_of
  walk_at "v"
  refine vs_eq (comp_eq (c := U.str) (d := id) (p := fun _ => true) (g := ndU) fun y m => ⟨rfl, fun _ => ?_⟩) ?_
  · refine eq_of_wp fun st => ?_
    walk_at "v"
    refine vs_eq (number_ok (h y m)) ?_
    exact ⟨rfl, rfl⟩
  rw [List.filter_eq_self.mpr (fun _ _ => rfl), List.map_id]
  refine ⟨by rw [List.length_map]; omega, ?_⟩
  walk_at "v"
  refine wo_eq (in_non ys) ?_
  walk_at "v"
  unfold ndsU
  refine if_any (fun q => ?_) fun q => ?_
  · rw [if_pos q]; exact vs_ret (by exact ⟨rfl, rfl⟩)
  · rw [if_neg (by rw [q]; simp)]; exact vs_ret (by exact ⟨rfl, rfl⟩)
theorem law_numbers_ok {ys : List Str} (h : ∀ y ∈ ys, y.length ≤ 1000000) (hl : ys.length ≤ 1000000) : m__law_numbers (.lst (ys.map .str)) = .ret (ndsU ys) := by
  have sl : (1000002 : Nat) ≤ sizeLine := by decide
  refine eq_of_wp fun st => ?_
  unfold m__law_numbers
  walk_at "v"
  refine vs_for (c := U.str) (e := fun r : List Str => U.lst (r.map ndU)) (t0 := []) (fun pre r s => r = pre ∧ s = st ∧ ∀ y ∈ pre, (nd y).isSome = true) rfl ⟨rfl, rfl, fun _ m => nomatch m⟩ ?_ ?_
  · rintro pre x post r s e ⟨rfl, rfl, ha⟩
    have hx := h x (by rw [e]; simp)
    walk_at "v"
    have bad : (nd x).isNone = true → (.non : U) = ndsU ys := fun q => by
      unfold ndsU
      rw [if_pos (List.any_eq_true.mpr ⟨x, by rw [e]; simp, q⟩)]
    have e0 : ¬ ((1 ≤ x.length ∧ x.length ≤ 9) ∧ digB x = true) → (nd x).isNone = true := fun h => by
      unfold nd; rw [if_neg h]; rfl
    refine wo_lenS hx ?_
    walk_at "v"
    refine if_any (fun q1 => ?_) fun q1 => ?_
    · walk_at "v"
      refine if_any (fun q2 => ?_) fun q2 => ?_
      · walk_at "v"
        exact ⟨bad (e0 fun q => by simp at q2; omega), rfl⟩
      · walk_at "v"
        refine all_digs hx ?_
        walk_at "v"
        refine if_any (fun q3 => ?_) fun q3 => ?_
        · walk_at "v"
          exact ⟨bad (e0 fun q => by rw [q.2] at q3; cases q3), rfl⟩
        · have hd : digB x = true := by simpa using q3
          have h9 : 1 ≤ x.length ∧ x.length ≤ 9 := by simp at q1 q2; omega
          have e1 : nd x = if zF x = true ∧ x ≠ "0" then none else some (NumText.digitsVal x.cps.toList) := by
            unfold nd; rw [if_pos ⟨h9, hd⟩]
          have good : ¬ (zF x = true ∧ x ≠ "0") → ∃ t, U.lst (r.map ndU ++ [.int ((NumText.digitsVal x.cps.toList : Nat) : Int)]) = U.lst (List.map ndU t) ∧ t = r ++ [x] ∧ s = s ∧ ∀ y ∈ r ++ [x], (nd y).isSome = true := fun q => by
            rw [if_neg q] at e1
            refine ⟨r ++ [x], ?_, rfl, rfl, fun y m => ?_⟩
            · rw [List.map_append, List.map_singleton]
              unfold ndU; rw [e1]
            · rcases List.mem_append.mp m with m | m
              · exact ha y m
              · rw [List.mem_singleton.mp m, e1]; rfl
          have hrl : r.length ≤ ys.length := by rw [e]; simp
          walk_at "v"
          refine wo_ixS0 h9.1 hx ?_
          walk_at "v"
          refine if_any (fun q4 => ?_) fun q4 => ?_
          · walk_at "v"
            refine if_any (fun q5 => ?_) fun q5 => ?_
            · walk_at "v"
              exact ⟨bad (by rw [e1, if_pos ⟨q4, by simpa using q5⟩]; rfl), rfl⟩
            · walk_at "v"
              refine wo_intS h9 hd ?_
              walk_at "v"
              refine wo_app (by rw [List.length_map]; omega) ?_
              walk_at "v"
              exact good fun q => by simp [q.2] at q5
          · walk_at "v"
            refine wo_intS h9 hd ?_
            walk_at "v"
            refine wo_app (by rw [List.length_map]; omega) ?_
            walk_at "v"
            exact good fun q => by have := q.1; unfold zF at this; rw [this] at q4; cases q4
    · walk_at "v"
      exact ⟨bad (e0 fun q => by simp at q1; omega), rfl⟩
  · rintro r s ⟨rfl, rfl, ha⟩
    walk_at "v"
    refine ⟨?_, rfl⟩
    unfold ndsU
    rw [if_neg]
    intro q
    obtain ⟨y, m, q⟩ := List.any_eq_true.mp q
    have := ha y m
    cases e : nd y <;> rw [e] at q this <;> simp at q this
open UY (ixD indexU)
theorem fm_range (l : List Nat) (k0 : Nat) : ∀ m, ((List.range m).map (fun k => k0 + k)).filterMap (fun i => l[i]?) = (l.drop k0).take m
  | 0 => rfl
  | m + 1 => by
    rw [List.range_succ, List.map_append, List.filterMap_append, fm_range l k0 m, List.take_add_one]
    congr 1
    rw [List.getElem?_drop]
    simp only [List.map_cons, List.map_nil]
    cases h : l[k0 + m]? <;> simp [h]
theorem slice_cut (x : Str) (a b : Option Int) : (Txt.slice x a b).cps.toList = EL.cut x.cps.toList a b := by
  have hzl : x.cps.toList.length = x.length := by simp [Str.length]
  have e := sidx a b x.length
  have ec : EL.cut x.cps.toList a b = (x.cps.toList.drop (HT.sIx x.length 0 a)).take (HT.sIx x.length x.length b - HT.sIx x.length 0 a) := by
    unfold EL.cut; rw [hzl]
  have h1 := HT.sIx_le x.length x.length (Nat.le_refl _) b
  have h2 := HT.sIx_le x.length 0 (Nat.zero_le _) a
  unfold Txt.slice
  split
  · rename_i c
    have c : (Builtin.Str.strSliceIndices a b 1 x.length).length = x.length := by simpa using c
    rw [e, List.length_map, List.length_range] at c
    rw [ec, c]
    by_cases hx : x.length = 0
    · have : x.cps.toList = [] := List.eq_nil_of_length_eq_zero (by omega)
      rw [this]; simp
    · rw [show HT.sIx x.length 0 a = 0 by omega, List.drop_zero, List.take_of_length_le (by omega)]
  · show (((Builtin.Str.strSliceIndices a b 1 x.length).filterMap (x.cps[·]?)).toArray).toList = _
    rw [List.toList_toArray, e, ec, ← fm_range]
    congr 1
    funext i
    exact (Array.getElem?_toList).symm
def nlc (z : Str) : Nat := z.cps.toList.count 10
theorem nlc_app (a b : Str) : nlc (a ++ b) = nlc a + nlc b := by
  show List.count 10 ((a.cps ++ b.cps).toList) = _
  rw [Array.toList_append, List.count_append]; rfl
theorem cnt_count (c : Nat) : ∀ l : List Nat, PyProof.Rows.cnt c l = ((l.count c : Nat) : Int)
  | [] => rfl
  | n :: r => by
    rw [PyProof.Rows.cnt_cons, cnt_count c r, List.count_cons]
    by_cases h : n = c <;> simp [h] <;> omega
theorem rows_len (z : Str) : (Txt.split z ⟨#[10]⟩).length = nlc z + 1 := by
  have := PyProof.Rows.split_len z 10
  rw [cnt_count] at this
  have e : nlc z = z.cps.toList.count 10 := rfl
  omega
def Fr10 (us : List U) : Prop := ∀ u ∈ us, ∃ z : Str, u = .str z ∧ 10 ∉ z.cps.toList
theorem Fr10.app {a b : List U} (ha : Fr10 a) (hb : Fr10 b) : Fr10 (a ++ b) := fun u m => (List.mem_append.mp m).elim (ha u) (hb u)
theorem Fr10.cut {a : List U} (h : Fr10 a) (lo hi : Option Int) : Fr10 (EL.cut a lo hi) := fun u m => h u (EL.cut_sub m)
theorem Fr10.rev {a : List U} (h : Fr10 a) : Fr10 a.reverse := fun u m => h u (List.mem_reverse.mp m)
theorem Fr10.one {z : Str} (h : 10 ∉ z.cps.toList) : Fr10 [.str z] := fun u m => ⟨z, List.mem_singleton.mp m, h⟩
theorem Fr10.cons {z : Str} {us : List U} (h : 10 ∉ z.cps.toList) (hs : Fr10 us) : Fr10 (.str z :: us) := fun u m => (List.mem_cons.mp m).elim (fun e => ⟨z, e, h⟩) (hs u)
theorem Fr10.str {us : List U} (h : Fr10 us) {z : Str} (m : U.str z ∈ us) : 10 ∉ z.cps.toList := by
  obtain ⟨y, e, hy⟩ := h _ m
  cases e; exact hy
theorem fr_split (z : Str) : Fr10 ((Txt.split z ⟨#[10]⟩).map .str) := fun u m => by
  obtain ⟨y, my, rfl⟩ := List.mem_map.mp m
  exact ⟨y, rfl, StrLaws.split_free z 10 y my⟩
theorem fr_part {z y s : Str} (h : 10 ∉ z.cps.toList) (m : y ∈ Txt.split z s) : 10 ∉ y.cps.toList := fun c => h (by rw [← StrLaws.join_split z s]; exact mem_join m c)
theorem nlc_join {s : Str} : ∀ {ts : List Str}, (∀ t ∈ ts, 10 ∉ t.cps.toList) → nlc (Str.join s ts) = (ts.length - 1) * nlc s
  | [], _ => by simp [Str.join, nlc]; rfl
  | [t], h => by
    show nlc t = 0 * _
    rw [Nat.zero_mul]
    exact List.count_eq_zero.mpr (h t (by simp))
  | t :: t2 :: ts, h => by
    show nlc (t ++ s ++ Str.join s (t2 :: ts)) = _
    rw [nlc_app, nlc_app, nlc_join (ts := t2 :: ts) fun x m => h x (List.mem_cons_of_mem _ m), show nlc t = 0 from List.count_eq_zero.mpr (h t (by simp))]
    simp only [List.length_cons]
    rw [show ts.length + 1 + 1 - 1 = (ts.length + 1 - 1) + 1 by omega, Nat.succ_mul]
    omega
theorem wo_joinN {a : Str} {us : List U} {P : U → Prop} (ha : a.length = 1) (oa : okC a) (hs : Ss us) (hf : Fr10 us) (hw : wt us ≤ 1000000) (h : ∀ z : Str, z.length ≤ wt us → okC z → nlc z = (us.length - 1) * nlc a → P (.str z)) : WpO (joinU (.str a) (.lst us)) P := by
  obtain ⟨ys, rfl, hy⟩ := hs.strs
  have e := wt_map ys
  refine ⟨.str (Txt.join a ys), ?_, h _ ?_ ?_ ?_⟩
  · show joinS a _ = _
    unfold joinS
    rw [unStr_strs]
    exact if_pos (by rw [ha]; omega)
  · show (Builtin.Str.glued a ys).length ≤ _
    rw [StrLaws.glued_eq_join]
    cases ys with
    | nil => exact Nat.zero_le _
    | cons y ys =>
      rw [PyProof.Rows.len_join_cons, ha]
      rw [e, List.length_cons]
      omega
  · show okC (Builtin.Str.glued a ys)
    rw [StrLaws.glued_eq_join]
    exact okC_join oa hy
  · show nlc (Builtin.Str.glued a ys) = _
    rw [StrLaws.glued_eq_join, nlc_join, List.length_map]
    exact fun t m => hf.str (List.mem_map.mpr ⟨t, m, rfl⟩)
theorem wt_le {us : List U} {n : Nat} (h : wt us ≤ n) (hs : Ss us) : us.length ≤ n := Nat.le_trans hs.len h
theorem cut_le {us : List U} {lo hi : Option Int} {n : Nat} (h : us.length ≤ n) : (EL.cut us lo hi).length ≤ n := Nat.le_trans EL.cut_len h
theorem wt_split (a : List U) (n : Nat) : wt (a.take n) + wt (a.drop n) = wt a := by
  have := wt_app (a.take n) (a.drop n)
  rw [List.take_append_drop] at this; omega
theorem wt_drop_le (a : List U) {m n : Nat} (h : m ≤ n) : wt (a.drop n) ≤ wt (a.drop m) := by
  rw [show n = m + (n - m) by omega, ← List.drop_drop]
  exact wt_drop _ _
theorem cut_to (a : List U) {i : Int} (h : 0 ≤ i) : EL.cut a none (some i) = a.take i.toNat := by
  have := EL.cut_upto (xs := a) (n := i.toNat)
  rwa [show ((i.toNat : Nat) : Int) = i by omega] at this
theorem cut_fr (a : List U) {i : Int} (h : 0 ≤ i) : EL.cut a (some i) none = a.drop i.toNat := by
  have := EL.cut_from (xs := a) (n := i.toNat)
  rwa [show ((i.toNat : Nat) : Int) = i by omega] at this
theorem cut_md (a : List U) {i j : Int} (h : 0 ≤ i) (hj : 0 ≤ j) : EL.cut a (some i) (some j) = (a.drop i.toNat).take (j.toNat - i.toNat) := by
  have := EL.cut_mid (xs := a) (n := i.toNat) (m := j.toNat)
  rwa [show ((i.toNat : Nat) : Int) = i by omega, show ((j.toNat : Nat) : Int) = j by omega] at this
theorem words_changedN {ws so : List U} {st : Sto} {W m : Nat} {Q : U → Sto → Prop} (h : Hd st) (hs : Ss ws) (hf : Fr10 ws) (ho : Ss so) (of : Fr10 so) (hw : wt ws ≤ W) (W0 : W ≤ 100000) (s0 : 0 < so.length) (s1 : so.length ≤ 100000) (hm : ∀ z, U.str z ∈ so → z.length ≤ m) (k : ∀ (r : List U) (s : Sto), Ss r → Fr10 r → wt r ≤ max (3 * W) (W + m + 1) → r.length ≤ ws.length + 1 → Hd s → Q (.lst r) s) : Wp (m__law_words_changed (.loc 0) (.lst ws) (.lst so)) st Q := by
  have hl := wt_le hw hs
  unfold m__law_words_changed
  walk_at "v"
  refine tk h (by omega) (by omega) fun a s a0 a1 h1 => ?_
  walk_at "v"
  refine tk h1 (by decide) (by decide) fun y s y0 y1 h2 => ?_
  walk_at "v"
  refine of_ok h2 s0 (by omega) fun u s mu h3 => ?_
  obtain ⟨z, rfl, oz⟩ := ho u mu
  have hzm := hm z mu
  have c1 := fun lo hi => wt_cut ws lo hi
  have l1 := fun lo hi => cut_le (lo := lo) (hi := hi) hl
  walk_at "v"
  refine if_any (fun q1 => ?_) fun q1 => ?_
  · walk_at "v"
    have b1 := c1 none (some a); have b2 := c1 (some (a + 1)) none
    have d1 := l1 none (some a); have d2 := l1 (some (a + 1)) none
    refine wo_addL (by omega) ?_
    refine k _ _ ((hs.cut _ _).app (hs.cut _ _)) ((hf.cut _ _).app (hf.cut _ _)) ?_ ?_ h3
    · rw [wt_app]; omega
    · rw [cut_to _ a0, cut_fr _ (by omega), List.length_append, List.length_take, List.length_drop]; omega
  · walk_at "v"
    refine if_any (fun q2 => ?_) fun q2 => ?_
    · walk_at "v"
      have b1 := c1 none (some (a + 1)); have b2 := c1 (some a) none
      have d1 := l1 none (some (a + 1)); have d2 := l1 (some a) none
      refine wo_addL (by omega) ?_
      refine k _ _ ((hs.cut _ _).app (hs.cut _ _)) ((hf.cut _ _).app (hf.cut _ _)) ?_ ?_ h3
      · rw [wt_app]; omega
      · rw [cut_to _ (by omega), cut_fr _ a0, List.length_append, List.length_take, List.length_drop]; omega
    · walk_at "v"
      refine if_any (fun q3 => ?_) fun q3 => ?_
      · walk_at "v"
        have b1 := c1 none (some a); have b2 := c1 (some a) (some (a + 2)); have b3 := c1 (some (a + 2)) none
        have d1 := l1 none (some a); have d2 := l1 (some a) (some (a + 2)); have d3 := l1 (some (a + 2)) none
        refine wo_eq (a := .lst (EL.cut ws (some a) (some (a + 2))).reverse) rfl ?_
        refine wo_addL (by rw [List.length_reverse]; omega) ?_
        walk_at "v"
        refine wo_addL (by rw [List.length_append, List.length_reverse]; omega) ?_
        refine k _ _ (((hs.cut _ _).app (hs.cut _ _).rev).app (hs.cut _ _)) (((hf.cut _ _).app (hf.cut _ _).rev).app (hf.cut _ _)) ?_ ?_ h3
        · rw [wt_app, wt_app, wt_rev]; omega
        · rw [cut_to _ a0, cut_fr _ (by omega), cut_md _ a0 (by omega), List.length_append, List.length_append, List.length_reverse, List.length_take, List.length_drop, List.length_take, List.length_drop]; omega
      · walk_at "v"
        have b1 := c1 none (some a); have b2 := c1 (some (a + y - 3)) none
        have d1 := l1 none (some a); have d2 := l1 (some (a + y - 3)) none
        have e1 := wt_one z
        have y3 : 3 ≤ y := by simp at q1 q2 q3; omega
        refine wo_addL (by simp; omega) ?_
        walk_at "v"
        refine wo_addL (by simp; omega) ?_
        refine k _ _ (((hs.cut _ _).app (.one oz)).app (hs.cut _ _)) (((hf.cut _ _).app (.one (of.str mu))).app (hf.cut _ _)) ?_ ?_ h3
        · rw [wt_app, wt_app, cut_to _ a0, cut_fr _ (by omega)]
          have e2 := wt_split ws a.toNat
          have e3 := wt_drop_le ws (m := a.toNat) (n := (a + y - 3).toNat) (by omega)
          omega
        · rw [cut_to _ a0, cut_fr _ (by omega), List.length_append, List.length_append, List.length_take, List.length_drop, List.length_singleton]; omega
def signs : Str := "0123456789 -\n\nabehiklnprsty/()~A"
theorem nl_slice (z : Str) (lo hi : Option Int) : nlc (Txt.slice z lo hi) = (EL.cut z.cps.toList lo hi).count 10 := by
  unfold nlc; rw [slice_cut]
theorem cutN_to {l : List Nat} {i : Int} (h : 0 ≤ i) : EL.cut l none (some i) = l.take i.toNat := by
  have := EL.cut_upto (xs := l) (n := i.toNat)
  rwa [show ((i.toNat : Nat) : Int) = i by omega] at this
theorem cutN_fr {l : List Nat} {i : Int} (h : 0 ≤ i) : EL.cut l (some i) none = l.drop i.toNat := by
  have := EL.cut_from (xs := l) (n := i.toNat)
  rwa [show ((i.toNat : Nat) : Int) = i by omega] at this
theorem count_td (l : List Nat) (a b : Nat) (h : a ≤ b) : (l.take a).count 10 + (l.drop b).count 10 ≤ l.count 10 := by
  have e := congrArg (List.count 10) (List.take_append_drop a l)
  rw [List.count_append] at e
  have e2 : (l.drop b).count 10 ≤ (l.drop a).count 10 := by
    rw [show b = a + (b - a) by omega, ← List.drop_drop]
    have e3 := congrArg (List.count 10) (List.take_append_drop (b - a) (l.drop a))
    rw [List.count_append] at e3
    omega
  omega
theorem count_one (l : List Nat) (a : Nat) : (l.take (a + 1)).count 10 + (l.drop a).count 10 ≤ l.count 10 + 1 := by
  have e := congrArg (List.count 10) (List.take_append_drop a l)
  rw [List.count_append] at e
  rw [List.take_add_one, List.count_append]
  have : (l[a]?.toList).count 10 ≤ 1 := by
    cases l[a]? with
    | none => simp
    | some x => exact Nat.le_trans (List.count_le_length) (by simp)
  omega
theorem nl_slices (z : Str) {a b : Int} (h0 : 0 ≤ a) (h : a ≤ b) : nlc (Txt.slice z none (some a)) + nlc (Txt.slice z (some b) none) ≤ nlc z := by
  rw [nl_slice, nl_slice, cutN_to h0, cutN_fr (by omega)]
  exact count_td _ _ _ (by omega)
theorem nl_slices1 (z : Str) {a : Int} (h0 : 0 ≤ a) : nlc (Txt.slice z none (some (a + 1))) + nlc (Txt.slice z (some a) none) ≤ nlc z + 1 := by
  rw [nl_slice, nl_slice, cutN_to (by omega), cutN_fr h0, show (a + 1).toNat = a.toNat + 1 by omega]
  exact count_one _ _
theorem nl_one {t : Str} (h : t.length = 1) : nlc t ≤ 1 := by
  have e : t.cps.toList.length = t.length := by simp [Str.length]
  have : nlc t ≤ t.cps.toList.length := List.count_le_length
  omega
theorem sign_changedN {z : Str} {st : Sto} {n : Nat} {Q : U → Sto → Prop} (h : Hd st) (oz : okC z) (hz : z.length ≤ n) (n0 : n ≤ 100000) (k : ∀ (r : Str) (s : Sto), okC r → r.length ≤ 2 * n + 1 → nlc r ≤ nlc z + 1 → Hd s → Q (.str r) s) : Wp (m__law_sign_changed (.loc 0) (.str z)) st Q := by
  unfold m__law_sign_changed
  have c1 := fun lo hi => Txt.slice_le z lo hi
  have o1 := fun lo hi => okC_slice oz lo hi
  walk_at "v"
  refine wo_lenS (by omega) ?_
  walk_at "v"
  refine tk h (by omega) (by omega) fun a s a0 a1 h1 => ?_
  walk_at "v"
  refine tk h1 (by decide) (by decide) fun y s y0 y1 h2 => ?_
  walk_at "v"
  refine of_str (z := signs) h2 (by decide +kernel) (by decide +kernel) (okC_of _) fun t s lt ot h3 => ?_
  walk_at "v"
  refine if_any (fun q1 => ?_) fun q1 => ?_
  · walk_at "v"
    refine vs_slS ?_
    walk_at "v"
    refine wo_slS (by omega) ?_
    refine vs_slS ?_
    walk_at "v"
    refine wo_slS (by omega) ?_
    have b1 := c1 none (some a); have b2 := c1 (some (a + 1)) none
    have b3 := nl_slices z (b := a + 1) a0 (by omega)
    refine wo_addS (by omega) ?_
    refine k _ _ (okC_app (o1 _ _) (o1 _ _)) ?_ ?_ h3
    · rw [app_len]; omega
    · rw [nlc_app]; omega
  · walk_at "v"
    refine if_any (fun q2 => ?_) fun q2 => ?_
    · walk_at "v"
      refine vs_slS ?_
      walk_at "v"
      refine wo_slS (by omega) ?_
      refine vs_slS ?_
      walk_at "v"
      refine wo_slS (by omega) ?_
      have b1 := c1 none (some (a + 1)); have b2 := c1 (some a) none
      have b3 := nl_slices1 z a0
      refine wo_addS (by omega) ?_
      refine k _ _ (okC_app (o1 _ _) (o1 _ _)) ?_ ?_ h3
      · rw [app_len]; omega
      · rw [nlc_app]; omega
    · walk_at "v"
      refine vs_slS ?_
      walk_at "v"
      refine wo_slS (by omega) ?_
      walk_at "v"
      have b1 := c1 none (some a)
      refine wo_addS (by omega) ?_
      refine vs_slS ?_
      walk_at "v"
      refine wo_slS (by omega) ?_
      have y2 : 0 ≤ y.fdiv 2 := Int.fdiv_nonneg y0 (by decide)
      have b2 := c1 (some (a + y.fdiv 2)) none
      have b3 := nl_slices z (b := a + y.fdiv 2) a0 (by omega)
      have b4 := nl_one lt
      refine wo_addS (by rw [app_len]; omega) ?_
      refine k _ _ (okC_app (okC_app (o1 _ _) ot) (o1 _ _)) ?_ ?_ h3
      · rw [app_len, app_len]; omega
      · rw [nlc_app, nlc_app]; omega
theorem nl_at : ("\n" : Str) = ⟨#[10]⟩ := by decide +kernel
abbrev cs : List U := [.str "0", .str "1", .str "7", .str "00", .str "-", .str "", .str "999999999", .str "1000000000", .str "/", .str "(", .str ")", .str "by", .str "ranks", .str "01"]
theorem cs_ss : Ss cs := .cons (okC_of _) (.cons (okC_of _) (.cons (okC_of _) (.cons (okC_of _) (.cons (okC_of _) (.cons (okC_of _) (.cons (okC_of _) (.cons (okC_of _) (.cons (okC_of _) (.cons (okC_of _) (.cons (okC_of _) (.cons (okC_of _) (.cons (okC_of _) (.one (okC_of _))))))))))))))
theorem cs_fr : Fr10 cs := .cons (by decide +kernel) (.cons (by decide +kernel) (.cons (by decide +kernel) (.cons (by decide +kernel) (.cons (by decide +kernel) (.cons (by decide +kernel) (.cons (by decide +kernel) (.cons (by decide +kernel) (.cons (by decide +kernel) (.cons (by decide +kernel) (.cons (by decide +kernel) (.cons (by decide +kernel) (.cons (by decide +kernel) (.one (by decide +kernel))))))))))))))
theorem cs_len (w : Str) (m : U.str w ∈ cs) : w.length ≤ 16 := by
  have : ∀ u ∈ cs, sz u ≤ 11 := by decide +kernel
  have := this _ m
  have e : sz (.str w) = w.length + 1 := rfl
  omega
theorem spoiltN {z : Str} {hs : List U} {st : Sto} {n : Nat} {Q : U → Sto → Prop} (h : Hd st) (oz : okC z) (hz : z.length ≤ n) (n0 : n ≤ 10000) (oh : Ss hs) (fh : Fr10 hs) (h0 : 0 < hs.length) (h1 : hs.length ≤ 100) (hm : ∀ z, U.str z ∈ hs → z.length ≤ 16) (k : ∀ (r : Str) (s : Sto), okC r → r.length ≤ 3 * n + 40 → nlc r ≤ nlc z + 1 → Hd s → Q (.str r) s) : Wp (m__law_spoilt (.loc 0) (.str z) (.lst hs)) st Q := by
  unfold m__law_spoilt
  walk_at "v"
  refine wo_split rfl (by omega) ?_
  have sr : Ss ((Txt.split z "\n").map U.str) := split_ss oz
  have fr : Fr10 ((Txt.split z "\n").map U.str) := by rw [nl_at]; exact fr_split z
  have er : ((Txt.split z "\n").map U.str).length = nlc z + 1 := by rw [List.length_map, nl_at]; exact rows_len z
  have wr : wt ((Txt.split z "\n").map U.str) ≤ z.length + 1 := split_wt rfl
  have nr : 0 < ((Txt.split z "\n").map U.str).length := split_ne
  have lr := wt_le (n := n + 1) (by omega) sr
  have mr : ∀ y, U.str y ∈ (Txt.split z "\n").map U.str → y.length ≤ n := fun y m => by have := wt_mem m; omega
  have nn : nlc "\n" = 1 := by decide +kernel
  generalize (Txt.split z "\n").map U.str = rows at sr fr er wr nr lr mr
  walk_at "v"
  refine tk h (by decide) (by decide) fun y s y0 y1 h2 => ?_
  walk_at "v"
  refine if_any (fun q1 => ?_) fun q1 => ?_
  · walk_at "v"
    refine of_ok h2 nr (by omega) fun u s mu h3 => ?_
    obtain ⟨z1, rfl, o1⟩ := sr u mu
    walk_at "v"
    refine of_ok h3 h0 (by omega) fun u s mh h4 => ?_
    obtain ⟨z2, rfl, o2⟩ := oh u mh
    walk_at "v"
    refine words_changedN (W := n + 1) (m := n + 16) h4 sr fr (.cons o1 (.cons o2 (.one okC_empty))) (.cons (fr.str mu) (.cons (fh.str mh) (.one (by decide +kernel)))) (by omega) (by omega) (by simp) (by simp) (fun w m => ?_) fun r s or fr' wr' lr' h5 => ?_
    · have a1 := mr z1 mu; have a2 := hm z2 mh
      simp at m
      rcases m with rfl | rfl | rfl
      · omega
      · omega
      · exact Nat.le_trans (Nat.le_of_eq (by decide +kernel : Str.length "" = 0)) (Nat.zero_le _)
    · refine wo_joinN (by decide +kernel) (okC_of _) or fr' (by omega) fun w lw ow nw => ?_
      exact k _ _ ow (by omega) (by rw [nw, nn, Nat.mul_one]; omega) h5
  · walk_at "v"
    refine if_any (fun q2 => ?_) fun q2 => ?_
    · walk_at "v"
      refine tk h2 (by omega) (by omega) fun a s a0 a1 h3 => ?_
      walk_at "v"
      have ha : a.toNat < rows.length := by omega
      obtain ⟨zr, ez, ozr⟩ := sr rows[a.toNat] (List.getElem_mem ha)
      have mz : U.str zr ∈ rows := by rw [← ez]; exact List.getElem_mem ha
      have eat : atI rows a = some (.str zr) := by
        have := atI_get (List.getElem?_eq_getElem ha)
        rw [show ((a.toNat : Nat) : Int) = a by omega, ez] at this
        exact this
      have wsum : wt (rows.take a.toNat) + (zr.length + 1) + wt (rows.drop (a.toNat + 1)) = wt rows := by
        have e1 := wt_split rows a.toNat
        have e2 : rows.drop a.toNat = .str zr :: rows.drop (a.toNat + 1) := by rw [List.drop_eq_getElem_cons ha, ez]
        have e3 : wt (.str zr :: rows.drop (a.toNat + 1)) = zr.length + 1 + wt (rows.drop (a.toNat + 1)) := by simp [wt, sz]
        rw [e2, e3] at e1; omega
      refine wo_ix_l eat ?_
      walk_at "v"
      refine wo_split rfl (by omega) ?_
      have sw : Ss ((Txt.split zr " ").map U.str) := split_ss ozr
      have fw : Fr10 ((Txt.split zr " ").map U.str) := fun u m => by
        obtain ⟨y, my, rfl⟩ := List.mem_map.mp m
        exact ⟨y, rfl, fr_part (fr.str mz) my⟩
      have ww : wt ((Txt.split zr " ").map U.str) ≤ zr.length + 1 := split_wt rfl
      have nw : 0 < ((Txt.split zr " ").map U.str).length := split_ne
      have mw : ∀ y, U.str y ∈ (Txt.split zr " ").map U.str → y.length ≤ zr.length := fun y m => by have := wt_mem m; omega
      have lw := wt_le (n := n + 1) (by omega) sw
      generalize (Txt.split zr " ").map U.str = wds at sw fw ww nw lw mw
      walk_at "v"
      refine of_ok h3 nw (by omega) fun u s mu h4 => ?_
      obtain ⟨z1, rfl, o1⟩ := sw u mu
      walk_at "v"
      refine of_ok h4 h0 (by omega) fun u s mh h5 => ?_
      obtain ⟨z2, rfl, o2⟩ := oh u mh
      have l2 := hm z2 mh
      walk_at "v"
      refine wo_split rfl (by omega) ?_
      have sh : Ss ((Txt.split z2 " ").map U.str) := split_ss o2
      have fs : Fr10 ((Txt.split z2 " ").map U.str) := fun u m => by
        obtain ⟨y, my, rfl⟩ := List.mem_map.mp m
        exact ⟨y, rfl, fr_part (fh.str mh) my⟩
      have wh : wt ((Txt.split z2 " ").map U.str) ≤ z2.length + 1 := split_wt rfl
      have nh : 0 < ((Txt.split z2 " ").map U.str).length := split_ne
      generalize (Txt.split z2 " ").map U.str = hds at sh fs wh nh
      obtain ⟨z3, e3, o3⟩ := sh hds[0] (List.getElem_mem nh)
      have m3 : U.str z3 ∈ hds := by rw [← e3]; exact List.getElem_mem nh
      have l3 : z3.length ≤ 16 := by have := wt_mem (a := hds) (z := z3) m3; omega
      have eat3 : atI hds 0 = some (.str z3) := by
        have := atI_get (List.getElem?_eq_getElem nh)
        rw [e3] at this
        exact this
      walk_at "v"
      refine wo_ix_l eat3 ?_
      walk_at "v"
      refine wo_addL (by simp) ?_
      walk_at "v"
      have b1 := fun lo hi => wt_cut rows lo hi
      have d1 := fun lo hi => cut_le (lo := lo) (hi := hi) lr
      refine words_changedN (W := zr.length + 1) (m := zr.length + 16) h5 sw fw (Ss.app cs_ss (.cons o1 (.one o3))) (Fr10.app cs_fr (.cons (fw.str mu) (.one (fs.str m3)))) (by omega) (by omega) (by simp) (by simp) (fun w m => ?_) fun r s or fr' wr' lr' h6 => ?_
      · rcases List.mem_append.mp m with m | m
        · have := cs_len w m; omega
        · have a1 := mw z1 mu
          simp at m
          rcases m with rfl | rfl
          · omega
          · omega
      · walk_at "v"
        refine wo_joinN (by decide +kernel) (okC_of _) or fr' (by omega) fun w lw' ow nw' => ?_
        have w10 : 10 ∉ w.cps.toList := by
          have e0 : nlc " " = 0 := by decide +kernel
          rw [e0, Nat.mul_zero] at nw'
          exact List.count_eq_zero.mp nw'
        have e1 := wt_one w
        walk_at "v"
        rw [cut_to _ a0]
        have l5 : (rows.take a.toNat).length ≤ n + 1 := Nat.le_trans (List.length_take_le' ..) lr
        have l6 : (rows.drop (a.toNat + 1)).length ≤ n + 1 := by rw [List.length_drop]; omega
        have st' : Ss (rows.take a.toNat) := fun u m => sr u (List.mem_of_mem_take m)
        have sd' : Ss (rows.drop (a.toNat + 1)) := fun u m => sr u (List.mem_of_mem_drop m)
        have ft' : Fr10 (rows.take a.toNat) := fun u m => fr u (List.mem_of_mem_take m)
        have fd' : Fr10 (rows.drop (a.toNat + 1)) := fun u m => fr u (List.mem_of_mem_drop m)
        refine wo_addL (by simp; omega) ?_
        walk_at "v"
        rw [cut_fr _ (by omega), show (a + 1).toNat = a.toNat + 1 by omega]
        refine wo_addL (by simp; omega) ?_
        refine wo_joinN (by decide +kernel) (okC_of _) ((st'.app (.one ow)).app sd') ((ft'.app (.one w10)).app fd') (by rw [wt_app, wt_app]; omega) fun v lv ov nv => ?_
        rw [wt_app, wt_app] at lv
        refine k _ _ ov (by omega) ?_ h6
        rw [nv, nn, Nat.mul_one, List.length_append, List.length_append, List.length_take, List.length_drop, List.length_singleton]
        omega
    · walk_at "v"
      refine sign_changedN h2 oz hz (by omega) fun r s or lr nr h3 => ?_
      exact k _ _ or (by omega) nr h3
abbrev wrds (z : Str) : List Str := Txt.split z " "
theorem wrds_ne (z : Str) : wrds z ≠ [] := fun e => by
  have := PyProof.Rows.split_pos z " "
  rw [show Txt.split z " " = [] from e] at this
  cases this
theorem wrds_len {z : Str} (hz : z.length ≤ 100000) : (∀ y ∈ wrds z, y.length ≤ 1000000) ∧ (wrds z).length ≤ z.length + 2 := by
  have h := PyProof.Rows.split_le z " "
  exact ⟨fun y m => by have := PyProof.Rows.part_short m; omega, h⟩
def two (r : List Str) : Option (Nat × Nat) := match r with
  | [a, b] => (match nd a, nd b with
    | some i, some j => some (i, j)
    | _, _ => none)
  | _ => none
def rowN (name y : Str) : Option (Nat × Nat) := match wrds y with
  | f :: r => if f = name then two r else none
  | [] => none
def prU : Option (Nat × Nat) → U
  | some (i, j) => .tup [.int (i : Int), .int (j : Int)]
  | none => .non
theorem two_cases (r : List Str) : (∃ i j : Nat, ndsU r = .tup [.int (i : Int), .int (j : Int)] ∧ two r = some (i, j)) ∨ (two r = none ∧ (ndsU r = .non ∨ ∃ us, ndsU r = .tup us ∧ us.length ≠ 2)) := by
  have gen : r.length ≠ 2 → two r = none → (two r = none ∧ (ndsU r = .non ∨ ∃ us, ndsU r = .tup us ∧ us.length ≠ 2)) := fun hl ht => ⟨ht, by
    unfold ndsU
    split
    · exact .inl rfl
    · exact .inr ⟨_, rfl, by rw [List.length_map]; exact hl⟩⟩
  match r with
  | [] => exact .inr (gen (by decide) rfl)
  | [a] => exact .inr (gen (by simp) rfl)
  | a :: b :: c :: r => exact .inr (gen (by simp) rfl)
  | [a, b] =>
    cases e1 : nd a with
    | none => exact .inr ⟨by simp [two, e1], .inl (by simp [ndsU, e1])⟩
    | some i =>
      cases e2 : nd b with
      | none => exact .inr ⟨by simp [two, e1, e2], .inl (by simp [ndsU, e1, e2])⟩
      | some j => exact .inl ⟨i, j, by simp [ndsU, ndU, e1, e2], by simp [two, e1, e2]⟩
theorem vs_unSF {α : Type} {Q : α → Sto → Prop} {st : Sto} {a : U} {r : List U} {k : U → U → M α} (h : r.length ≤ 16000) (q : Wp (k a (.lst r)) st Q) : Wp (unSF (.lst (a :: r)) k) st Q := by
  show Wp (if r.length ≤ 16000 then k a (.lst r) else .fail) st Q
  rw [if_pos h]; exact q
theorem behind_ok {name y : Str} (hy : y.length ≤ 15000) : m_numbers_behind (.str name) (.str y) (.int 2) = .ret (prU (rowN name y)) := by
  have hl := wrds_len (z := y) (by omega)
  refine eq_of_wp fun st => ?_
  unfold m_numbers_behind
  walk_at "v"
  refine wo_split rfl (by omega) ?_
  show Wp (unSF (.lst ((wrds y).map .str)) _) _ _
  cases ew : wrds y with
  | nil => exact absurd ew (wrds_ne y)
  | cons f r =>
    rw [ew] at hl
    have er : rowN name y = if f = name then two r else none := by unfold rowN; rw [ew]
    have hr : ∀ x ∈ r, x.length ≤ 1000000 := fun x m => hl.1 x (List.mem_cons_of_mem _ m)
    have hrl : r.length ≤ 16000 := by have := hl.2; rw [List.length_cons] at this; omega
    rw [List.map_cons]
    refine vs_unSF (by rw [List.length_map]; exact hrl) ?_
    walk_at "v"
    refine vs_eq (numbers_ok hr (by omega)) ?_
    walk_at "v"
    by_cases hf : f = name
    · refine if_nn hf ?_
      rw [if_pos hf] at er
      rw [er]
      rcases two_cases r with ⟨i, j, e1, e2⟩ | ⟨e2, e1 | ⟨us, e1, hu⟩⟩
      · rw [e1, e2]
        walk_at "v"
        refine if_f ?_
        walk_at "v"
        refine if_t ?_
        walk_at "v"
        refine if_nn rfl ?_
        walk_at "v"
        exact ⟨rfl, rfl⟩
      · rw [e1, e2]
        walk_at "v"
        refine if_t ?_
        walk_at "v"
        exact ⟨rfl, rfl⟩
      · rw [e1, e2]
        walk_at "v"
        refine if_f ?_
        walk_at "v"
        refine if_t ?_
        walk_at "v"
        refine if_np (by omega) ?_
        walk_at "v"
        exact ⟨rfl, rfl⟩
    · refine if_np hf ?_
      rw [if_neg hf] at er
      rw [er]
      walk_at "v"
      exact ⟨rfl, rfl⟩
theorem place_ok {y : Str} (hy : y.length ≤ 15000) : m_place_in_game (.str y) = .ret (prU (rowN "place" y)) := by
  refine eq_of_wp fun st => ?_
  unfold m_place_in_game
  walk_at "v"
  refine vs_callK ?_
  walk_at "v"
  refine ⟨⟨rfl, rfl⟩, ?_⟩
  show Wp (m_numbers_behind (.str "place") (.str y) (.int 2)) _ _
  refine vs_eq (behind_ok hy) ?_
  exact ⟨rfl, rfl⟩
theorem way_ok {y : Str} (hy : y.length ≤ 15000) : m_way_in_game (.str y) = .ret (prU (rowN "way" y)) := by
  refine eq_of_wp fun st => ?_
  unfold m_way_in_game
  walk_at "v"
  refine vs_callK ?_
  walk_at "v"
  refine ⟨⟨rfl, rfl⟩, ?_⟩
  show Wp (m_numbers_behind (.str "way") (.str y) (.int 2)) _ _
  refine vs_eq (behind_ok hy) ?_
  exact ⟨rfl, rfl⟩
noncomputable abbrev rds : List (Str × (List U → M U)) := [("place_in_game", L1 m_place_in_game), ("way_in_game", L1 m_way_in_game)]
def isR (name y : Str) : Bool := (rowN name y).isSome
def pre (name : Str) (ys : List Str) : List Str := ys.takeWhile (isR name)
def RdOk (fn name : Str) (y : Str) : Prop := ∀ (wa : M (List U)) (st : Sto) (Q : U → Sto → Prop), Wp wa st (fun us s => us = [.str y] ∧ Q (prU (rowN name y)) s) → Wp (callJM rds (.top fn) wa) st Q
theorem rd_place {y : Str} (hy : y.length ≤ 15000) : RdOk "place_in_game" "place" y := fun wa st Q h => by
  show Wp (callM (L1 m_place_in_game) wa) st Q
  refine vs_call (h.mono ?_)
  rintro _ s ⟨rfl, q⟩
  refine vs_L1 (vs_eq (place_ok hy) q)
theorem rd_way {y : Str} (hy : y.length ≤ 15000) : RdOk "way_in_game" "way" y := fun wa st Q h => by
  show Wp (callM (L1 m_way_in_game) wa) st Q
  refine vs_call (h.mono ?_)
  rintro _ s ⟨rfl, q⟩
  refine vs_L1 (vs_eq (way_ok hy) q)
theorem pre_take {name : Str} {ys : List Str} {j : Nat} (h : j ≤ (pre name ys).length) : (pre name ys).take j = ys.take j := by
  unfold pre at h ⊢
  have e := List.takeWhile_prefix (p := isR name) (l := ys)
  obtain ⟨t, ht⟩ := e
  have := congrArg (List.take j) ht
  rw [List.take_append_of_le_length h] at this
  exact this
theorem pre_next {name : Str} : ∀ {ys : List Str} {j : Nat} {y : Str}, j ≤ (pre name ys).length → ys[j]? = some y → (isR name y = true ↔ j < (pre name ys).length)
  | [], j, y, _, e => by simp at e
  | z :: ys, j, y, h, e => by
    unfold pre at h ⊢
    rw [List.takeWhile_cons] at h ⊢
    cases j with
    | zero =>
      have : z = y := by simpa using e
      subst this
      cases hz : isR name z <;> simp
    | succ j =>
      cases hz : isR name z with
      | false => rw [hz] at h; simp at h
      | true =>
        rw [hz] at h
        simp only [if_true, List.length_cons] at h ⊢
        have := pre_next (name := name) (ys := ys) (j := j) (y := y) (by unfold pre; omega) (by simpa using e)
        unfold pre at this
        rw [this]; omega
theorem isNU_pr (o : Option (Nat × Nat)) : isNU (prU o) = !o.isSome := by cases o <;> rfl
theorem taken_ok {fn name : Str} {ys : List Str} (hr : ∀ y ∈ ys, RdOk fn name y) (i : Nat) (hi : i ≤ ys.length) (hy : ys.length ≤ 100000) {st : Sto} {Q : U → Sto → Prop}
    (q : Q (.tup [.tup ((pre name (ys.drop i)).map fun y => prU (rowN name y)), .int ((i + (pre name (ys.drop i)).length : Nat) : Int)]) st) : Wp (m_taken (.lst (ys.map .str)) (.int (i : Int)) (.top fn)) st Q := by
  have sl : (1000002 : Nat) ≤ sizeLine := by decide
  have hp : (pre name (ys.drop i)).length ≤ ys.length - i := by
    have := (List.takeWhile_prefix (p := isR name) (l := ys.drop i)).length_le
    rw [List.length_drop] at this
    exact this
  unfold m_taken
  walk_at "v"
  refine vs_while (τ := Nat) (e := fun j => (.int ((i + j : Nat) : Int), .lst (((ys.drop i).take j).map fun y => prU (rowN name y)))) (fun j s => s = st ∧ j ≤ (pre name (ys.drop i)).length) (fun j => (pre name (ys.drop i)).length - j) ?_ (t0 := 0) (by simp) ⟨rfl, Nat.zero_le _⟩
  have fin : ∀ (j : Nat) (s : Sto), j ≤ (pre name (ys.drop i)).length → (pre name (ys.drop i)).length ≤ j → Q (.tup [.tup ((pre name (ys.drop i)).map fun y => prU (rowN name y)), .int ((i + (pre name (ys.drop i)).length : Nat) : Int)]) s → (SeqK (fun s_5 : U × U => rtO (tupW (consA (op1 tupleU (M.ret s_5.snd)) (consA (M.ret s_5.fst) nilA)))) (FnK Q) (Out.nx (U.int ((i + j : Nat) : Int), U.lst (((ys.drop i).take j).map (fun y => prU (rowN name y))))) s) := fun j s h1 h2 q => by
    have e : j = (pre name (ys.drop i)).length := by omega
    have e2 : (ys.drop i).take j = pre name (ys.drop i) := by rw [← pre_take h1, e, List.take_length]
    show Wp _ _ _
    walk_at "v"
    rw [e2, e]
    exact q
  rintro j s ⟨rfl, hj⟩
  walk_at "v"
  refine if_any (fun q1 => ?_) fun q1 => ?_
  · have hlt : i + j < ys.length := by simp at q1; omega
    have ey : (ys.drop i)[j]? = some ys[i + j] := by rw [List.getElem?_drop]; exact List.getElem?_eq_getElem hlt
    have my : ys[i + j] ∈ ys := List.getElem_mem hlt
    have eat : atI (ys.map U.str) ((i + j : Nat) : Int) = some (.str ys[i + j]) := by
      refine atI_get ?_
      rw [List.getElem?_map, List.getElem?_eq_getElem hlt]; rfl
    have hn := pre_next hj ey
    generalize ys[i + j] = y at ey my eat hn
    walk_at "v"
    refine hr y my _ _ _ ?_
    walk_at "v"
    refine wo_ix_l eat ?_
    walk_at "v"
    refine ⟨rfl, ?_⟩
    walk_at "v"
    rw [isNU_pr]
    cases hb : isR name y with
    | true =>
      have hjl := hn.mp hb
      refine if_yes (by unfold isR at hb; rw [hb]; rfl) ?_
      walk_at "v"
      refine hr y my _ _ _ ?_
      walk_at "v"
      refine wo_ix_l eat ?_
      walk_at "v"
      refine ⟨rfl, ?_⟩
      walk_at "v"
      refine wo_app (by rw [List.length_map, List.length_take]; omega) ?_
      walk_at "v"
      refine wo_eq (a := .int (((i + j : Nat) : Int) + 1)) rfl ?_
      walk_at "v"
      refine ⟨j + 1, ?_, ⟨rfl, by omega⟩, by omega⟩
      rw [List.take_add_one, ey, List.map_append]
      congr 1
    | false =>
      have hjl : ¬ j < (pre name (ys.drop i)).length := fun h => by rw [hn.mpr h] at hb; cases hb
      refine if_no (by unfold isR at hb; rw [hb]; rfl) ?_
      exact fin j s hj (by omega) q
  · refine if_f ?_
    exact fin j s hj (by simp at q1; omega) q
def three (P Q : List Str) : U := .tup [.tup (P.map fun y => .int (((rowN "place" y).getD (0, 0)).1 : Int)), .tup (P.map fun y => .int (((rowN "place" y).getD (0, 0)).2 : Int)), .tup (Q.map fun y => prU (rowN "way" y))]
def readU (r0 : Str) (ys : List Str) : U := if r0 ≠ "game" then .int 0 else if (pre "place" ys).length + (pre "way" (ys.drop (pre "place" ys).length)).length < ys.length then .int (((pre "place" ys).length + (pre "way" (ys.drop (pre "place" ys).length)).length + 1 : Nat) : Int) else three (pre "place" ys) (pre "way" (ys.drop (pre "place" ys).length))
theorem tw_app {p : Str → Bool} {A R : List Str} (h : ∀ x ∈ A, p x = true) (hr : ∀ x R', R = x :: R' → p x = false) : (A ++ R).takeWhile p = A := by
  rw [List.takeWhile_append_of_pos h]
  cases R with
  | nil => simp
  | cons x R => rw [List.takeWhile_cons, hr x R rfl]; simp
theorem enumL_map {τ : Type} (c : τ → U) (d : τ) (xs : List τ) : enumL (xs.map c) = (List.range xs.length).map fun i : Nat => U.tup [.int (i : Nat), c (xs.getD i d)] := by
  refine List.ext_getElem? fun i => ?_
  by_cases hi : i < xs.length
  · unfold enumL
    rw [List.getElem?_zipWith, List.length_map, List.getElem?_range hi, List.getElem?_map, List.getElem?_map, List.getElem?_range hi, List.getElem?_eq_getElem hi]
    simp [List.getD, hi]
  · rw [List.getElem?_eq_none (by rw [enumL_len, List.length_map]; omega), List.getElem?_eq_none (by rw [List.length_map, List.length_range]; omega)]
theorem way_not {y : Str} (h : isR "way" y = true) : isR "place" y = false := by
  unfold isR rowN at h ⊢
  cases hw : wrds y with
  | nil => rfl
  | cons f r =>
    rw [hw] at h
    simp only at h ⊢
    by_cases e : f = "way"
    · rw [if_neg (by rw [e]; decide)]; rfl
    · rw [if_neg e] at h; cases h
theorem scan_end {ys A B C : List Str} (e : ys = A ++ (B ++ C)) (hA : ∀ x ∈ A, isR "place" x = true) (hB : ∀ x ∈ B, isR "way" x = true) (hC : ∀ x C', C = x :: C' → isR "way" x = false ∧ (B = [] → isR "place" x = false)) : pre "place" ys = A ∧ pre "way" (ys.drop (pre "place" ys).length) = B := by
  have e1 : pre "place" ys = A := by
    rw [e]
    refine tw_app hA fun x R' er => ?_
    cases B with
    | nil => exact (hC x R' er).2 rfl
    | cons b B =>
      have : b = x := (List.cons.inj er).1
      rw [← this]
      exact way_not (hB b List.mem_cons_self)
  refine ⟨e1, ?_⟩
  rw [e1, e, List.drop_left]
  exact tw_app hB fun x R' er => (hC x R' er).1
theorem notin_at (f : Str) : notInSU (.str f) (.tup [.str "place", .str "way"]) = some (.bl (!(decide (("place" : Str) = f) || decide (("way" : Str) = f)))) := by
  unfold notInSU
  have : inB (.str f) (.tup [.str "place", .str "way"]) = some (decide (("place" : Str) = f) || decide (("way" : Str) = f)) := by
    show some ([V.str "place", V.str "way"].any fun y => eqV y (.str f)) = _
    simp only [List.any_cons, List.any_nil, Bool.or_false]
    rfl
  rw [this]; rfl
theorem pr_nb (o : Option (Nat × Nat)) : nbU (prU o) = true ∧ dpU (prU o) ≤ 1 := by
  cases o with
  | none => exact ⟨rfl, Nat.zero_le _⟩
  | some p => exact ⟨rfl, Nat.le_refl _⟩
theorem prs_nb : ∀ B : List Str, nbA (B.map fun y => prU (rowN "way" y)) = true ∧ dpA (B.map fun y => prU (rowN "way" y)) ≤ 1
  | [] => ⟨rfl, Nat.zero_le _⟩
  | b :: B => by
    have h1 := pr_nb (rowN "way" b)
    have h2 := prs_nb B
    rw [List.map_cons]
    exact ⟨by show (nbU _ && nbA _) = true; rw [h1.1, h2.1]; rfl, by show max (dpU _) (dpA _) ≤ 1; omega⟩
theorem ne_ways (B : List Str) : neU (.lst (B.map fun y => prU (rowN "way" y))) (.lst []) = some (.bl (!decide (B = []))) := by
  refine neU_nb (show nbU (.lst _) = true from (prs_nb B).1) rfl (by show dpA _ + 1 ≤ 64; have := (prs_nb B).2; omega) (by decide) (by rw [decide_eq_true_eq]; simp)
theorem places_comp (c : Nat × Nat → Nat) (k : Int) (hk : ∀ p : Nat × Nat, atI [U.int (p.1 : Int), U.int (p.2 : Int)] k = some (.int (c p : Int))) {A : List Str} (hA : ∀ x ∈ A, isR "place" x = true) : compM (fun _ => (.ret true)) (fun place => op2 ixU (.ret place) (.ret (.int k))) (A.map fun y => prU (rowN "place" y)) = .ret (A.map fun y => U.int (c ((rowN "place" y).getD (0, 0)) : Int)) := by
  have := comp_eq (c := fun y : Str => prU (rowN "place" y)) (d := id) (p := fun _ => true) (g := fun y => U.int (c ((rowN "place" y).getD (0, 0)) : Int)) (xs := A) (wt := fun _ => (.ret true)) (we := fun place => op2 ixU (.ret place) (.ret (.int k))) fun y m => ⟨rfl, fun _ => by
    have h := hA y m
    unfold isR at h
    cases e : rowN "place" y with
    | none => rw [e] at h; cases h
    | some p =>
      refine eq_of_wp fun st => ?_
      refine vs_op2 (vs_ret (vs_ret ?_))
      exact ⟨_, hk p, rfl, rfl⟩⟩
  rw [List.filter_eq_self.mpr (fun _ _ => rfl), List.map_id] at this
  exact this
theorem read_law {z r0 : Str} {ys : List Str} (hz : z.length ≤ 15000) (oz : okC z) (hs : Txt.split z "\n" = r0 :: ys) : m__law_read (.str z) = .ret (readU r0 ys) := by
  have sl : (1000002 : Nat) ≤ sizeLine := by decide
  have hlen : ∀ y ∈ r0 :: ys, y.length ≤ 15000 := fun y m => by
    have := PyProof.Rows.part_short (x := z) (y := "\n") (a := y) (by rw [hs]; exact m)
    omega
  have hcount : (r0 :: ys).length ≤ 15002 := by rw [← hs]; have := PyProof.Rows.split_le z "\n"; omega
  refine eq_of_wp fun st => ?_
  unfold m__law_read
  walk_at "v"
  refine wo_split rfl (by omega) ?_
  rw [hs, List.map_cons]
  walk_at "v"
  refine wo_ix_l (u := .str r0) (atI_get (us := U.str r0 :: ys.map U.str) (k := 0) rfl) ?_
  walk_at "v"
  refine if_any (fun q1 => ?_) fun q1 => ?_
  · walk_at "v"
    unfold readU
    rw [if_pos (by simpa using q1)]
    exact ⟨rfl, rfl⟩
  · walk_at "v"
    have hc : EL.cut (U.str r0 :: ys.map U.str) (some 1) none = ys.map U.str := EL.cut_from (xs := U.str r0 :: ys.map U.str) (n := 1)
    rw [hc, enumL_map U.str ""]
    refine vs_for (c := fun i : Nat => U.tup [.int (i : Nat), .str (ys.getD i "")]) (xs := List.range ys.length) (e := fun p : List Str × List Str => (U.lst (p.1.map fun y => prU (rowN "place" y)), U.lst (p.2.map fun y => prU (rowN "way" y)))) (t0 := ([], []))
      (fun pr p s => s = st ∧ ys.take pr.length = p.1 ++ p.2 ∧ (∀ x ∈ p.1, isR "place" x = true) ∧ ∀ x ∈ p.2, isR "way" x = true) rfl ⟨rfl, rfl, (fun _ m => nomatch m), (fun _ m => nomatch m)⟩ ?_ ?_
    · rintro pr i post ⟨A, B⟩ s ex ⟨rfl, et, hA, hB⟩
      simp only at et hA hB
      have hil : pr.length < ys.length := by have := congrArg List.length ex; simp at this; omega
      have hi : i = pr.length := by
        have h1 : (List.range ys.length)[pr.length]? = some i := by rw [ex]; simp
        rw [List.getElem?_range hil] at h1
        exact (Option.some.inj h1).symm
      subst hi
      have ey : ys.getD pr.length "" = ys[pr.length] := by rw [List.getD_eq_getElem?_getD, List.getElem?_eq_getElem hil]; rfl
      have my : ys[pr.length] ∈ ys := List.getElem_mem hil
      have et1 : ys.take (pr.length + 1) = A ++ B ++ [ys[pr.length]] := by rw [List.take_add_one, et, List.getElem?_eq_getElem hil]; rfl
      have eys : ys = A ++ (B ++ (ys[pr.length] :: ys.drop (pr.length + 1))) := by
        have := List.take_append_drop (pr.length + 1) ys
        rw [et1] at this
        rw [← List.append_assoc]
        simpa using this.symm
      have hlA : A.length + B.length = pr.length := by have := congrArg List.length et; simp at this; omega
      rw [ey]
      generalize ys[pr.length] = y at my et1 eys
      have hy := hlen y (List.mem_cons_of_mem _ my)
      have hl := wrds_len (z := y) (by omega)
      walk_at "v"
      refine wo_split rfl (by omega) ?_
      cases ew : wrds y with
      | nil => exact absurd ew (wrds_ne y)
      | cons f r =>
      rw [ew] at hl
      have er : ∀ name, rowN name y = if f = name then two r else none := fun name => by unfold rowN; rw [ew]
      have em : (Txt.split y " ").map U.str = U.str f :: r.map U.str := by rw [show Txt.split y " " = _ from ew]; rfl
      have hcr : EL.cut (U.str f :: r.map U.str) (some 1) none = r.map U.str := EL.cut_from (xs := U.str f :: r.map U.str) (n := 1)
      have hr : ∀ x ∈ r, x.length ≤ 1000000 := fun x m => hl.1 x (List.mem_cons_of_mem _ m)
      have hrl : r.length ≤ 16000 := by have := hl.2; rw [List.length_cons] at this; omega
      rw [em]
      walk_at "v"
      rw [hcr]
      refine vs_eq (law_numbers_ok hr (by omega)) ?_
      walk_at "v"
      refine wo_split rfl (by omega) ?_
      rw [em]
      walk_at "v"
      refine wo_ix_l (u := .str f) (atI_get (us := U.str f :: r.map U.str) (k := 0) rfl) ?_
      walk_at "v"
      have bad : isR "way" y = false → (B = [] → isR "place" y = false) → (U.int (((pr.length : Nat) : Int) + 1)) = readU r0 ys := fun b1 b2 => by
        obtain ⟨p1, p2⟩ := scan_end eys hA hB fun x C' ec => by
          have : y = x := (List.cons.inj ec).1
          rw [← this]; exact ⟨b1, b2⟩
        unfold readU
        rw [if_neg (by simpa using q1), p2, p1, if_pos (by omega), hlA]
        congr 1
      have good : ∀ (A' B' : List Str), (∀ x ∈ A', isR "place" x = true) → (∀ x ∈ B', isR "way" x = true) → A' ++ B' = A ++ B ++ [y] → ∃ t : List Str × List Str, ((U.lst (A'.map fun y => prU (rowN "place" y)), U.lst (B'.map fun y => prU (rowN "way" y))) : U × U) = (U.lst (t.1.map fun y => prU (rowN "place" y)), U.lst (t.2.map fun y => prU (rowN "way" y))) ∧ s = s ∧ ys.take (pr ++ [pr.length]).length = t.1 ++ t.2 ∧ (∀ x ∈ t.1, isR "place" x = true) ∧ ∀ x ∈ t.2, isR "way" x = true := fun A' B' h1 h2 h3 => ⟨(A', B'), rfl, rfl, by rw [List.length_append, List.length_singleton, et1]; exact h3.symm, h1, h2⟩
      have hlY : A.length ≤ 20000 ∧ B.length ≤ 20000 := by have := hcount; rw [List.length_cons] at this; omega
      rcases two_cases r with ⟨i, j, e1, e2⟩ | ⟨e2, e1⟩
      · rw [e1]
        walk_at "v"
        refine if_f ?_
        walk_at "v"
        refine if_nn rfl ?_
        walk_at "v"
        refine wo_eq (notin_at f) ?_
        walk_at "v"
        refine if_any (fun q2 => ?_) fun q2 => ?_
        · have nf : f ≠ "place" ∧ f ≠ "way" := by simp at q2; exact ⟨fun h => q2.1 h.symm, fun h => q2.2 h.symm⟩
          walk_at "v"
          exact ⟨bad (by unfold isR; rw [er, if_neg nf.2]; rfl) (fun _ => by unfold isR; rw [er, if_neg nf.1]; rfl), rfl⟩
        · walk_at "v"
          refine if_any (fun q3 => ?_) fun q3 => ?_
          · have fp : f = "place" := of_decide_eq_true q3
            have ip : isR "place" y = true := by unfold isR; rw [er, if_pos fp, e2]; rfl
            have iw : isR "way" y = false := by unfold isR; rw [er, if_neg (by rw [fp]; decide)]; rfl
            have rp : prU (rowN "place" y) = .tup [.int (i : Int), .int (j : Int)] := by rw [er, if_pos fp, e2]; rfl
            walk_at "v"
            refine wo_eq (ne_ways B) ?_
            walk_at "v"
            refine if_any (fun q4 => ?_) fun q4 => ?_
            · walk_at "v"
              exact ⟨bad iw (fun h => by rw [h] at q4; cases q4), rfl⟩
            · have hB0 : B = [] := by simpa using q4
              walk_at "v"
              refine if_p fp ?_
              walk_at "v"
              refine wo_app (by rw [List.length_map]; show A.length < _; omega) ?_
              walk_at "v"
              have := good (A ++ [y]) [] (fun x m => (List.mem_append.mp m).elim (hA x) fun m => by rw [List.mem_singleton.mp m]; exact ip) (fun _ m => nomatch m) (by rw [hB0]; simp)
              rw [List.map_append, List.map_singleton, rp] at this
              rw [hB0]
              exact this
          · have fp : f ≠ "place" := of_decide_eq_false q3
            have fw : f = "way" := by
              simp at q2
              by_cases h : "place" = f
              · exact absurd h.symm fp
              · exact (q2 h).symm
            have iw : isR "way" y = true := by unfold isR; rw [er, if_pos fw, e2]; rfl
            have rw' : prU (rowN "way" y) = .tup [.int (i : Int), .int (j : Int)] := by rw [er, if_pos fw, e2]; rfl
            walk_at "v"
            refine if_n fp ?_
            walk_at "v"
            refine wo_app (by rw [List.length_map]; show B.length < _; omega) ?_
            walk_at "v"
            have := good A (B ++ [y]) hA (fun x m => (List.mem_append.mp m).elim (hB x) fun m => by rw [List.mem_singleton.mp m]; exact iw) (by simp)
            rw [List.map_append, List.map_singleton, rw'] at this
            exact this
      · have b := bad (by unfold isR; rw [er, e2]; split <;> rfl) (fun _ => by unfold isR; rw [er, e2]; split <;> rfl)
        rcases e1 with e1 | ⟨us, e1, hu⟩
        · rw [e1]
          walk_at "v"
          refine if_t ?_
          walk_at "v"
          exact ⟨b, rfl⟩
        · rw [e1]
          walk_at "v"
          refine if_f ?_
          walk_at "v"
          refine if_np (by omega) ?_
          walk_at "v"
          exact ⟨b, rfl⟩
    · rintro ⟨A, B⟩ s ⟨rfl, et, hA, hB⟩
      simp only at et hA hB
      rw [List.length_range, List.take_length] at et
      walk_at "v"
      have hlY : A.length ≤ 20000 ∧ B.length ≤ 20000 := by have := congrArg List.length et; have := hcount; rw [List.length_cons] at this; simp at *; omega
      refine vs_eq (places_comp (fun p => p.1) 0 (fun p => rfl) hA) ?_
      refine ⟨by rw [List.length_map]; show A.length ≤ _; omega, ?_⟩
      walk_at "v"
      refine vs_eq (places_comp (fun p => p.2) 1 (fun p => rfl) hA) ?_
      refine ⟨by rw [List.length_map]; show A.length ≤ _; omega, ?_⟩
      walk_at "v"
      obtain ⟨p1, p2⟩ := scan_end (ys := ys) (A := A) (B := B) (C := []) (by rw [et]; simp) hA hB (fun x C' ec => nomatch ec)
      refine ⟨?_, rfl⟩
      unfold readU
      rw [if_neg (by simpa using q1), p2, p1, if_neg (by rw [et]; simp)]
      rfl
theorem wp_ret {α : Type} {w : M α} {a : α} {st : Sto} {Q : α → Sto → Prop} (e : w = .ret a) (q : Q a st) : Wp w st Q := e ▸ .ret q
theorem loc_at (ms : Sto) (x : U) : locM (.loc ms.length) (ms ++ [x]) = some (.ok (ms.length, (x, id)), ms ++ [x]) := by
  have : (ms ++ [x])[ms.length]? = some x := by simp
  unfold locM
  simp only [this]
theorem put_at (ms : Sto) (x y : U) : putC ms.length y (ms ++ [x]) = some (.ok (), ms ++ [y]) := by
  unfold putC
  rw [if_pos (by simp)]
  simp
theorem wp_loc {ms : Sto} {x : U} {Q : Cl → Sto → Prop} (q : Q (ms.length, (x, id)) (ms ++ [x])) : Wp (locM (.loc ms.length)) (ms ++ [x]) Q := .eq (loc_at ms x) q
theorem wp_put {ms : Sto} {x y : U} {Q : Unit → Sto → Prop} (q : Q () (ms ++ [y])) : Wp (putC ms.length y) (ms ++ [x]) Q := .eq (put_at ms x y) q
def blwI (b a : Int) : Bool := decide (0 ≤ a) && decide (a < b)
theorem below_int (a b : Int) : m_is_below (.int a) (.int b) = .ret (.bl (blwI b a)) := by
  have hw : m_is_whole (.int a) = .ret (.bl true) := by
    refine eq_of_wp fun st => ?_
    unfold m_is_whole
    walk_at "v"
    refine wo_eq (a := .bl true) rfl ?_
    walk_at "v"
    refine wo_eq (a := .bl false) rfl ?_
    walk_at "v"
    exact ⟨rfl, rfl⟩
  refine eq_of_wp fun st => ?_
  unfold m_is_below
  walk_at "v"
  refine vs_eq hw ?_
  walk_at "v"
  unfold blwI
  refine if_any (fun q => ?_) fun q => ?_
  · walk_at "v"
    exact ⟨by rw [q]; rfl, rfl⟩
  · walk_at "v"
    exact ⟨by rw [q]; rfl, rfl⟩
def bel3 (ns : List Int) (m b : Int) : Bool := decide ((ns.length : Int) = m) && ns.all (blwI b)
theorem below3 {ns : List Int} {m b : Int} (hl : ns.length ≤ 100000) : m_are_below (.tup (ns.map .int)) (.int m) (.int b) = .ret (.bl (bel3 ns m b)) := by
  have sz : (1000002 : Nat) ≤ sizeLine := by decide
  refine eq_of_wp fun st => ?_
  unfold m_are_below
  walk_at "v"
  refine wo_eq (a := .bl true) rfl ?_
  walk_at "v"
  rw [List.length_map]
  unfold bel3
  refine if_any (fun q => ?_) fun q => ?_
  · walk_at "v"
    refine vs_eq (comp_eq (c := U.int) (d := U.bl) (p := fun _ => true) (g := blwI b) fun x m => ⟨rfl, fun _ => ?_⟩) ?_
    · refine eq_of_wp fun st => ?_
      walk_at "v"
      refine vs_eq (below_int x b) ?_
      exact ⟨rfl, rfl⟩
    rw [List.filter_eq_self.mpr (fun _ _ => rfl)]
    refine ⟨by rw [List.length_map, List.length_map]; omega, ?_⟩
    refine wo_eq (allb_at _) ?_
    exact ⟨by rw [q, List.all_map]; rfl, rfl⟩
  · walk_at "v"
    exact ⟨by rw [q]; rfl, rfl⟩
theorem owners_b {ns : List Int} (hl : ns.length ≤ 100000) : ∃ t, m_are_owners (.tup (ns.map .int)) = .ret (.bl t) ∧ (t = true → 0 < ns.length) := by
  refine ⟨decide ((0 : Int) < ns.length) && bel3 ns ns.length 2, ?_, fun h => by simp at h; omega⟩
  refine eq_of_wp fun st => ?_
  unfold m_are_owners
  walk_at "v"
  refine wo_eq (a := .bl true) rfl ?_
  walk_at "v"
  rw [List.length_map]
  refine if_any (fun q => ?_) fun q => ?_
  · walk_at "v"
    rw [List.length_map]
    refine vs_eq (below3 hl) ?_
    exact ⟨by rw [q]; rfl, rfl⟩
  · walk_at "v"
    exact ⟨by rw [q]; rfl, rfl⟩
abbrev dU (p : Int × Int) : U := .tup [.int p.1, .int p.2]
theorem lt_duo (p q : Int × Int) : ∃ t, ltU (dU p) (dU q) = some (.bl t) := by
  have e0 : ltU (dU p) (dU q) = (match pd (dU p), pd (dU q) with
      | some d, some e => if PySem.W.alike d e = true ∧ notNone d = true ∧ d.depth ≤ 64 then some (U.bl (PySem.W.dataLt d e)) else none
      | _, _ => none) := rfl
  have e1 : ∀ p, pd (dU p) = some (.tuple [.int p.1, .int p.2]) := fun p => rfl
  rw [e0, e1, e1]
  simp only
  rw [if_pos ⟨by simp [PySem.W.alike, PySem.W.alikeAll], rfl, by simp [PyData.depth, PyData.depthAll]⟩]
  exact ⟨_, rfl⟩
def ltB (p q : Int × Int) : Bool := match ltU (dU p) (dU q) with
  | some (.bl t) => t
  | _ => false
theorem ltB_at (p q : Int × Int) : ltU (dU p) (dU q) = some (.bl (ltB p q)) := by
  obtain ⟨t, e⟩ := lt_duo p q
  unfold ltB; rw [e]
theorem rising_b {W : List (Int × Int)} (hl : W.length ≤ 100000) : ∃ t, m_are_rising (.tup (W.map dU)) = .ret (.bl t) := by
  have sz : (1000002 : Nat) ≤ sizeLine := by decide
  have ez : zipL (W.map dU) (EL.cut (W.map dU) (some 1) none) = (W.zip (W.drop 1)).map fun p => U.tup [dU p.1, dU p.2] := by
    rw [show EL.cut (W.map dU) (some 1) none = (W.map dU).drop 1 from EL.cut_from (n := 1), ← List.map_drop]
    generalize W.drop 1 = V
    unfold zipL
    rw [List.zipWith_map, List.zip, List.map_zipWith]
  refine ⟨(((W.zip (W.drop 1)).map fun p => ltB p.1 p.2).all id), eq_of_wp fun st => ?_⟩
  unfold m_are_rising
  walk_at "v"
  rw [ez]
  refine vs_eq (comp_eq (c := fun p : (Int × Int) × (Int × Int) => U.tup [dU p.1, dU p.2]) (d := U.bl) (p := fun _ => true) (g := fun p => ltB p.1 p.2) fun p m => ⟨rfl, fun _ => ?_⟩) ?_
  · show M.o (ltU (dU p.1) (dU p.2)) = _
    rw [ltB_at]; rfl
  rw [List.filter_eq_self.mpr (fun _ _ => rfl)]
  refine ⟨by rw [List.length_map, List.length_map, List.length_zip]; omega, ?_⟩
  refine wo_eq (allb_at _) ?_
  exact ⟨rfl, rfl⟩
theorem nodup_ddI : ∀ ns : List Int, (ddI ns).Nodup := snoc_ind (by simp [ddI]) fun l k ih => by
  rw [ddI_snoc]
  split
  · exact ih
  · rename_i h
    exact List.nodup_append.mpr ⟨ih, by simp, fun a ma b mb e => h (by rw [List.mem_singleton.mp mb] at e; exact e ▸ ma)⟩
theorem intsL_map : ∀ ns : List Int, intsL (ns.map U.int) = some ns
  | [] => rfl
  | n :: ns => by rw [List.map_cons, intsL, intsL_map ns]; rfl
theorem ways_b {W : List (Int × Int)} {n : Nat} (hl : W.length ≤ 100000) (hn : n < 64) : ∃ t, m_are_ways (.tup (W.map dU)) (.int (n : Int)) = .ret (.bl t) := by
  have sz : (1000002 : Nat) ≤ sizeLine := by decide
  obtain ⟨tr, hr⟩ := rising_b hl
  have e1 : ∀ p : Int × Int, m_are_below (dU p) (.int 2) (.int (n : Int)) = .ret (.bl (bel3 [p.1, p.2] 2 n)) := fun p => below3 (ns := [p.1, p.2]) (by simp)
  refine ⟨(W.all fun p => bel3 [p.1, p.2] 2 n) && (tr && decide (((ddI (W.map (·.1))).length : Int) = n)), eq_of_wp fun st => ?_⟩
  unfold m_are_ways
  walk_at "v"
  refine wo_eq (a := .bl true) rfl ?_
  walk_at "v"
  refine vs_eq (comp_eq (c := dU) (d := U.bl) (p := fun _ => true) (g := fun p => bel3 [p.1, p.2] 2 n) fun p m => ⟨rfl, fun _ => ?_⟩) ?_
  · refine eq_of_wp fun st => ?_
    walk_at "v"
    refine vs_eq (e1 p) ?_
    exact ⟨rfl, rfl⟩
  rw [List.filter_eq_self.mpr (fun _ _ => rfl)]
  refine ⟨by rw [List.length_map, List.length_map]; omega, ?_⟩
  refine wo_eq (allb_at _) ?_
  rw [List.all_map]
  show WpO (boolU (.bl (W.all fun p => bel3 [p.1, p.2] 2 n))) _
  walk_at "v"
  refine if_any (fun q1 => ?_) fun q1 => ?_
  · have q1 : (W.all fun p => bel3 [p.1, p.2] 2 n) = false := by simpa using q1
    walk_at "v"
    exact ⟨by rw [q1]; rfl, rfl⟩
  · have q1 : (W.all fun p => bel3 [p.1, p.2] 2 n) = true := by simpa using q1
    walk_at "v"
    refine vs_eq hr ?_
    walk_at "v"
    cases tr with
    | false =>
      refine if_t ?_
      walk_at "v"
      exact ⟨by rw [q1]; rfl, rfl⟩
    | true =>
      refine if_f ?_
      walk_at "v"
      refine vs_eq (comp_eq (c := dU) (d := U.int) (p := fun _ => true) (g := fun p => p.1) fun p m => ⟨rfl, fun _ => rfl⟩) ?_
      rw [List.filter_eq_self.mpr (fun _ _ => rfl)]
      have hd : (ddI (W.map (·.1))).length ≤ n := nodup_len n _ (nodup_ddI _) fun x m => by
        obtain ⟨p, mp, rfl⟩ := List.mem_map.mp ((mem_ddI _).mp m)
        have := List.all_eq_true.mp q1 p mp
        simp [bel3, blwI] at this
        omega
      refine ⟨by rw [List.length_map, List.length_map]; omega, ?_⟩
      refine wo_eq (a := .int ((ddI (W.map (·.1))).length : Int)) ?_ ?_
      · show (match intsL ((W.map (·.1)).map U.int) with
          | some ns => if (ddI ns).length < 64 then some (U.int (ddI ns).length) else none
          | none => none) = _
        rw [intsL_map]
        simp only
        rw [if_pos (by omega)]
      walk_at "v"
      exact ⟨by rw [q1]; rfl, rfl⟩
theorem fault_b {O R : List Int} {W : List (Int × Int)} (ho : O.length < 64) (hr : R.length ≤ 100000) (hw : W.length ≤ 100000) : ∃ u, m_fault_of (.tup (O.map .int)) (.tup (R.map .int)) (.tup (W.map dU)) = .ret u ∧ (u = .non ∨ ∃ y : Str, u = .str y ∧ okS y ∧ y.cps.size ≤ 41) := by
  obtain ⟨t1, e1, _⟩ := owners_b (ns := O) (by omega)
  obtain ⟨t3, e3⟩ := ways_b (W := W) (n := (O.map U.int).length) hw (by rw [List.length_map]; exact ho)
  have e2 := below3 (ns := R) (m := ((O.map U.int).length : Nat)) (b := 10) hr
  have key : ∀ u : U, (∀ st, Wp (m_fault_of (.tup (O.map .int)) (.tup (R.map .int)) (.tup (W.map dU))) st fun x s => x = u ∧ s = st) → (u = .non ∨ ∃ y : Str, u = .str y ∧ okS y ∧ y.cps.size ≤ 41) → ∃ u, m_fault_of (.tup (O.map .int)) (.tup (R.map .int)) (.tup (W.map dU)) = .ret u ∧ (u = .non ∨ ∃ y : Str, u = .str y ∧ okS y ∧ y.cps.size ≤ 41) := fun u h1 h2 => ⟨u, eq_of_wp h1, h2⟩
  cases t1 with
  | false =>
    refine key (.str "owners") (fun st => ?_) (.inr ⟨_, rfl, okS_of _, by decide +kernel⟩)
    unfold m_fault_of
    walk_at "v"
    refine vs_eq e1 ?_
    walk_at "v"
    exact ⟨rfl, rfl⟩
  | true =>
    cases hb : bel3 R ((O.map U.int).length : Nat) 10 with
    | false =>
      rw [hb] at e2
      refine key (.str "ranks") (fun st => ?_) (.inr ⟨_, rfl, okS_of _, by decide +kernel⟩)
      unfold m_fault_of
      walk_at "v"
      refine vs_eq e1 ?_
      walk_at "v"
      refine vs_eq e2 ?_
      walk_at "v"
      exact ⟨rfl, rfl⟩
    | true =>
      rw [hb] at e2
      cases t3 with
      | false =>
        refine key (.str "ways") (fun st => ?_) (.inr ⟨_, rfl, okS_of _, by decide +kernel⟩)
        unfold m_fault_of
        walk_at "v"
        refine vs_eq e1 ?_
        walk_at "v"
        refine vs_eq e2 ?_
        walk_at "v"
        refine vs_eq e3 ?_
        walk_at "v"
        exact ⟨rfl, rfl⟩
      | true =>
        refine key .non (fun st => ?_) (.inl rfl)
        unfold m_fault_of
        walk_at "v"
        refine vs_eq e1 ?_
        walk_at "v"
        refine vs_eq e2 ?_
        walk_at "v"
        refine vs_eq e3 ?_
        walk_at "v"
        exact ⟨rfl, rfl⟩
theorem init_bad {st : Sto} {i : Nat} {a b c : U} {y : Str} (hf : m_fault_of a b c = .ret (.str y)) : WrE (m_Game___init__ (.loc i) a b c) st (.exo "NoGame" "why" (.str y)) := by
  unfold m_Game___init__
  refine wrE_fnX rfl (.seq (.bind (wp_ret (w := callM (L3 m_fault_of) _) hf (.nx (.seq (.ite (.test (.bind (.ret (.ret ⟨true, rfl, ?_⟩))))))))))
  exact ⟨_, _, rfl, rfl, rfl⟩
def gNames : List Str := ["owners", "ranks", "ways"]
abbrev gameO (a b c : List U) : U := .obj "Game" gNames [.tup a, .tup b, .tup c]
theorem init_good {ms : Sto} {a b c : List U} (hf : m_fault_of (.tup a) (.tup b) (.tup c) = .ret .non) :
    Wp (m_Game___init__ (.loc ms.length) (.tup a) (.tup b) (.tup c)) (ms ++ [.obj "Game" [] []]) fun u st => u = .non ∧ st = ms ++ [gameO a b c] := by
  unfold m_Game___init__
  refine wp_fnX (fun u s ⟨e, _⟩ => by rw [e]; rfl) ?_
  refine .fn (.seq (.bind (wp_ret (w := callM (L3 m_fault_of) _) hf (.nx (.seq (.ite (.test (.bind (.ret (.ret ⟨_, rfl, ?_⟩))))))))))
  show Wp (nxO ()) _ _
  refine .nx ?_
  refine .bind (.bind (.ret (.o rfl (.bind (wp_loc (.bind (.o rfl (.bind (wp_put ?_)))))))))
  refine .bind (.bind (.ret (.o rfl (.bind (wp_loc (.bind (.o rfl (.bind (wp_put ?_)))))))))
  refine .bind (.bind (.ret (.o rfl (.bind (wp_loc (.bind (.o rfl (.bind (wp_put ?_)))))))))
  exact .nx ⟨rfl, rfl⟩
theorem mk_good {st : Sto} {a b c : List U} (hf : m_fault_of (.tup a) (.tup b) (.tup c) = .ret .non) (hn : nlU (gameO a b c) = true) {wa : M (List U)} {Q : U → Sto → Prop} (ha : Wp wa st fun us s' => us = [.tup a, .tup b, .tup c] ∧ Q (gameO a b c) s') : Wp (mkX "Game" (L4 m_Game___init__) wa) st Q := by
  obtain ⟨us, s', e1, rfl, q⟩ := ha
  have hl' : (opq s').length = s'.length := by unfold opq; rw [List.length_map, List.length_range]
  obtain ⟨u, st', e, rfl, rfl⟩ := init_good (ms := opq s') hf
  refine ⟨gameO a b c, s', ?_, q⟩
  unfold mkX
  rw [e1]
  rw [hl'] at e
  have hx : (opq s' ++ [gameO a b c])[s'.length]? = some (gameO a b c) := by rw [← hl']; simp
  show (match m_Game___init__ (.loc s'.length) (.tup a) (.tup b) (.tup c) (opq s' ++ [.obj "Game" [] []]) with
      | some (.ok .non, st') => (match st'[s'.length]? with
        | some u => if nlU u = true then some (Res.ok u, s') else none
        | none => none)
      | some (.er e, _) => if nlE e = true then some (.er e, s') else none
      | _ => none) = _
  rw [e]
  simp only [hx]
  rw [if_pos hn]
theorem mk_bad {st : Sto} {a b c : List U} {y : Str} (hf : m_fault_of (.tup a) (.tup b) (.tup c) = .ret (.str y)) {wa : M (List U)} (ha : Wp wa st fun us s' => us = [.tup a, .tup b, .tup c] ∧ s' = st) : WrE (mkX "Game" (L4 m_Game___init__) wa) st (.exo "NoGame" "why" (.str y)) := by
  obtain ⟨us, s', e1, rfl, rfl⟩ := ha
  unfold WrE mkX
  rw [e1]
  have eb := init_bad (st := opq s' ++ [.obj "Game" [] []]) (i := s'.length) hf
  show (match m_Game___init__ (.loc s'.length) (.tup a) (.tup b) (.tup c) (opq s' ++ [.obj "Game" [] []]) with
      | some (.ok .non, st') => (match st'[s'.length]? with
        | some u => if nlU u = true then some (Res.ok u, s') else none
        | none => none)
      | some (.er e, _) => if nlE e = true then some (.er e, s') else none
      | _ => none) = _
  rw [show m_Game___init__ (.loc s'.length) (.tup a) (.tup b) (.tup c) (opq s' ++ [.obj "Game" [] []]) = _ from eb]
  rfl
theorem nl_ints : ∀ l : List Int, nlA (l.map U.int) = true
  | [] => rfl
  | x :: l => by rw [List.map_cons, nlA, nl_ints l]; rfl
theorem nl_duos : ∀ l : List (Int × Int), nlA (l.map dU) = true
  | [] => rfl
  | x :: l => by rw [List.map_cons, nlA, nl_duos l]; rfl
theorem nl_game (O R : List Int) (W : List (Int × Int)) : nlU (gameO (O.map .int) (R.map .int) (W.map dU)) = true := by
  simp [gameO, nlU, nlA, nl_ints, nl_duos]
def prI (name y : Str) : Int × Int := ((((rowN name y).getD (0, 0)).1 : Int), (((rowN name y).getD (0, 0)).2 : Int))
theorem pr_good {name y : Str} (h : isR name y = true) : prU (rowN name y) = dU (prI name y) := by
  unfold isR at h
  unfold prI
  cases e : rowN name y with
  | none => rw [e] at h; cases h
  | some p => rfl
theorem three_at {P Q : List Str} (hQ : ∀ x ∈ Q, isR "way" x = true) : three P Q = .tup [.tup ((P.map fun y => (prI "place" y).1).map .int), .tup ((P.map fun y => (prI "place" y).2).map .int), .tup ((Q.map (prI "way")).map dU)] := by
  unfold three
  rw [List.map_map, List.map_map, List.map_map, List.map_congr_left (l := Q) fun y m => pr_good (hQ y m)]
  rfl
theorem pre_all (name : Str) (ys : List Str) : ∀ x ∈ pre name ys, isR name x = true := fun x m => by
  unfold pre at m
  have := List.all_takeWhile (p := isR name) (l := ys)
  exact List.all_eq_true.mp this x m
theorem rows_ok {z : Str} (hz : z.length ≤ 100000) {st : Sto} : Wp (m_rows_of (.str z)) st fun u s => s = st ∧ u = .lst ((Txt.split z "\n").map .str) := by
  unfold m_rows_of
  refine wp_fnX (fun u s ⟨_, e⟩ => by rw [e]; rfl) ?_
  refine .fn ?_
  walk_at "v"
  refine wo_eq (rfl : isiU (.str z) "str" = some (.bl true)) ?_
  walk_at "v"
  refine if_no rfl ?_
  walk_at "v"
  refine wo_split rfl (by omega) ?_
  exact ⟨rfl, rfl⟩
abbrev nt (i : Int) : U := .exo "NoText" "row" (.int i)
abbrev ng (y : Str) : U := .exo "NoGame" "why" (.str y)
theorem check_bad {us : List U} {i : Int} (h : i < us.length) {st : Sto} : WrE (m_check_end (.lst us) (.int i)) st (nt i) := by
  unfold m_check_end
  refine wrE_fnX rfl ?_
  walk_at "v"
  refine if_p h ?_
  walk_at "v"
  exact ⟨rfl, rfl⟩
theorem check_good {us : List U} {i : Int} (h : ¬ i < us.length) {st : Sto} : Wp (m_check_end (.lst us) (.int i)) st fun u s => u = .non ∧ s = st := by
  unfold m_check_end
  refine wp_fnX (fun u s ⟨e, _⟩ => by rw [e]; rfl) ?_
  refine .fn ?_
  walk_at "v"
  refine if_n h ?_
  walk_at "v"
  exact ⟨rfl, rfl⟩
theorem owners_comp (c : Int × Int → Int) (we : U → U → M U) (hw : ∀ p : Int × Int, we (.int p.1) (.int p.2) = .ret (.int (c p))) {A : List Str} (hA : ∀ x ∈ A, isR "place" x = true) : compM (fun e => un2 e fun _ _ => (.ret true)) (fun e => un2 e we) (A.map fun y => prU (rowN "place" y)) = .ret ((A.map fun y => c (prI "place" y)).map U.int) := by
  have := comp_eq (c := fun y : Str => prU (rowN "place" y)) (d := U.int) (p := fun _ => true) (g := fun y => c (prI "place" y)) (xs := A) (wt := fun e => un2 e fun _ _ => (.ret true)) (we := fun e => un2 e we) fun y m => by
    rw [pr_good (hA y m)]
    exact ⟨rfl, fun _ => hw _⟩
  rw [List.filter_eq_self.mpr (fun _ _ => rfl)] at this
  exact this
theorem read_game_ok {z r0 : Str} {ys : List Str} (hz : z.length ≤ 15000) (hs : Txt.split z "\n" = r0 :: ys) {st : Sto} {Q : Out Unit Unit → Sto → Prop}
    (h0 : ∀ i : Int, readU r0 ys = .int i → Q (.rt (mkEx (nt i))) st)
    (hg : ∀ a b c, readU r0 ys = .tup [.tup a, .tup b, .tup c] → m_fault_of (.tup a) (.tup b) (.tup c) = .ret .non → Q (.rt (gameO a b c)) st)
    (hb : ∀ a b c y, readU r0 ys = .tup [.tup a, .tup b, .tup c] → m_fault_of (.tup a) (.tup b) (.tup c) = .ret (.str y) → Q (.rt (mkEx (ng y))) st)
    (hm : ys.length < 60) : ∃ w, m_read_game (.str z) = fnX w ∧ Wp w st Q := by
  have sl : (1000002 : Nat) ≤ sizeLine := by decide
  have hlen : ∀ y ∈ r0 :: ys, y.length ≤ 15000 := fun y m => by
    have := PyProof.Rows.part_short (x := z) (y := "\n") (a := y) (by rw [hs]; exact m)
    omega
  refine ⟨_, rfl, ?_⟩
  refine vs_exB (vs_callX ?_)
  walk_at "v"
  refine (rows_ok (by omega)).mono ?_
  rintro _ s ⟨rfl, rfl⟩
  rw [hs, List.map_cons]
  walk_at "v"
  refine wo_ix_l (u := .str r0) (atI_get (us := U.str r0 :: ys.map U.str) (k := 0) rfl) ?_
  walk_at "v"
  refine if_any (fun q1 => ?_) fun q1 => ?_
  · walk_at "v"
    exact h0 0 (by unfold readU; rw [if_pos (by simpa using q1)])
  · walk_at "v"
    have q1 : ¬ (r0 ≠ "game") := by simpa using q1
    refine taken_ok (fn := "place_in_game") (name := "place") (ys := r0 :: ys) (fun y m => rd_place (hlen y m)) 1 (by simp) (by simp; omega) ?_
    rw [List.drop_succ_cons, List.drop_zero]
    walk_at "v"
    have hp : (pre "place" ys).length ≤ ys.length := (List.takeWhile_prefix (p := isR "place") (l := ys)).length_le
    refine taken_ok (fn := "way_in_game") (name := "way") (ys := r0 :: ys) (fun y m => rd_way (hlen y m)) (1 + (pre "place" ys).length) (by simp; omega) (by simp; omega) ?_
    rw [show (r0 :: ys).drop (1 + (pre "place" ys).length) = ys.drop (pre "place" ys).length by rw [Nat.add_comm, List.drop_succ_cons]]
    have eR : readU r0 ys = if (pre "place" ys).length + (pre "way" (ys.drop (pre "place" ys).length)).length < ys.length then .int (((pre "place" ys).length + (pre "way" (ys.drop (pre "place" ys).length)).length + 1 : Nat) : Int) else three (pre "place" ys) (pre "way" (ys.drop (pre "place" ys).length)) := by
      unfold readU; rw [if_neg q1]
    have aP := pre_all "place" ys
    have aQ := pre_all "way" (ys.drop (pre "place" ys).length)
    have hq : (pre "way" (ys.drop (pre "place" ys).length)).length ≤ ys.length := by
      have := (List.takeWhile_prefix (p := isR "way") (l := ys.drop (pre "place" ys).length)).length_le
      rw [List.length_drop] at this
      unfold pre at *; omega
    generalize pre "way" (ys.drop (pre "place" ys).length) = Qs at eR aQ hq
    generalize pre "place" ys = Ps at eR aP hp
    walk_at "v"
    by_cases hlt : Ps.length + Qs.length < ys.length
    · rw [if_pos hlt] at eR
      refine (wrE_exB (e := nt ((1 + Ps.length + Qs.length : Nat) : Int)) (wrE_callX ?_)).mono ?_
      · walk_at "v"
        exact ⟨rfl, check_bad (by simp; omega)⟩
      · rintro _ s' ⟨rfl, rfl⟩
        refine h0 _ ?_
        rw [eR]; congr 1; omega
    · rw [if_neg hlt, three_at aQ] at eR
      refine vs_exB (vs_callX ?_)
      walk_at "v"
      refine (check_good (by simp; omega)).mono ?_
      rintro _ s' ⟨rfl, rfl⟩
      obtain ⟨u, ef, hu⟩ := fault_b (O := Ps.map fun y => (prI "place" y).1) (R := Ps.map fun y => (prI "place" y).2) (W := Qs.map (prI "way")) (by rw [List.length_map]; omega) (by rw [List.length_map]; omega) (by rw [List.length_map]; omega)
      have eQ : (Qs.map fun y => prU (rowN "way" y)) = (Qs.map (prI "way")).map dU := by
        rw [List.map_map]
        exact List.map_congr_left fun y m => pr_good (aQ y m)
      have args : ∀ (s : Sto) (Q' : List U → Sto → Prop), Q' [.tup ((Ps.map fun y => (prI "place" y).1).map .int), .tup ((Ps.map fun y => (prI "place" y).2).map .int), .tup ((Qs.map (prI "way")).map dU)] s → Wp (consA (op1 tupleU (lcW (itW (M.ret (U.tup (Ps.map fun y => prU (rowN "place" y))))) (fun e_17 => un2 e_17 fun owner_15 rank_16 => M.ret true) fun e_17 => un2 e_17 fun owner_15 rank_16 => M.ret owner_15)) (consA (op1 tupleU (lcW (itW (M.ret (U.tup (Ps.map fun y => prU (rowN "place" y))))) (fun e_14 => un2 e_14 fun owner_12 rank_13 => M.ret true) fun e_14 => un2 e_14 fun owner_12 rank_13 => M.ret rank_13)) (consA (M.ret (U.tup (Qs.map fun y => prU (rowN "way" y)))) nilA))) s Q' := fun s Q' q => by
        walk_at "v"
        refine vs_eq (owners_comp (fun p => p.1) (fun a _ => M.ret a) (fun _ => rfl) aP) ?_
        refine ⟨by rw [List.length_map, List.length_map]; omega, ?_⟩
        walk_at "v"
        refine vs_eq (owners_comp (fun p => p.2) (fun _ b => M.ret b) (fun _ => rfl) aP) ?_
        refine ⟨by rw [List.length_map, List.length_map]; omega, ?_⟩
        walk_at "v"
        rw [eQ]
        exact q
      rcases hu with rfl | ⟨y, rfl, _, _⟩
      · refine vs_exB (mk_good ef (nl_game _ _ _) (args _ _ ⟨rfl, ?_⟩))
        exact .ret (hg _ _ _ eR ef)
      · refine (wrE_exB (mk_bad ef (args _ _ ⟨rfl, rfl⟩))).mono ?_
        rintro _ s' ⟨rfl, rfl⟩
        exact hb _ _ _ _ eR ef
def txt (i : Int) : U := .tup [.str "text", .int i]
def gam (y : Str) : U := .tup [.str "game", .str y]
theorem class_nt (i : Int) : m__law_class (nt i) = .ret (txt i) := by
  refine eq_of_wp fun st => ?_
  unfold m__law_class
  walk_at "v"
  refine wo_eq (a := .bl true) rfl ?_
  walk_at "v"
  refine wo_eq (a := .bl false) rfl ?_
  walk_at "v"
  refine wo_eq (a := .bl true) rfl ?_
  walk_at "v"
  refine wo_eq (a := .bl false) rfl ?_
  walk_at "v"
  refine wo_eq (a := .bl false) rfl ?_
  walk_at "v"
  refine wo_eq (a := .bl true) rfl ?_
  walk_at "v"
  refine wo_eq (a := .int i) rfl ?_
  walk_at "v"
  exact ⟨rfl, rfl⟩
theorem class_ng (y : Str) : m__law_class (ng y) = .ret (gam y) := by
  refine eq_of_wp fun st => ?_
  unfold m__law_class
  walk_at "v"
  refine wo_eq (a := .bl true) rfl ?_
  walk_at "v"
  refine wo_eq (a := .bl false) rfl ?_
  walk_at "v"
  refine wo_eq (a := .bl false) rfl ?_
  walk_at "v"
  refine wo_eq (a := .bl false) rfl ?_
  walk_at "v"
  refine wo_eq (a := .bl true) rfl ?_
  walk_at "v"
  refine wo_eq (a := .bl false) rfl ?_
  walk_at "v"
  refine wo_eq (a := .bl false) rfl ?_
  walk_at "v"
  refine wo_eq (a := .bl true) rfl ?_
  walk_at "v"
  refine wo_eq (a := .str y) rfl ?_
  walk_at "v"
  exact ⟨rfl, rfl⟩
inductive Res1 (u : U) : U → Prop
  | text {i : Int} (e : u = .int i) : Res1 u (txt i)
  | game {a b c : List U} {y : Str} (e : u = .tup [.tup a, .tup b, .tup c]) (hf : m_fault_of (.tup a) (.tup b) (.tup c) = .ret (.str y)) : Res1 u (gam y)
  | made {a b c : List U} (e : u = .tup [.tup a, .tup b, .tup c]) (hf : m_fault_of (.tup a) (.tup b) (.tup c) = .ret .non) (hn : nlU (gameO a b c) = true) : Res1 u u
theorem told_err {u e r : U} (he : unEx (mkEx e) = some e) (ht : tabX [("NoText", true), ("NoGame", true)] (erc e) = some true) (hn : isNU (kpt e) = false) (hc : m__law_class (kpt e) = .ret r) (h : ∀ st, WrE (m_read_game u) st e) : m__law_told u = .ret r := by
  refine eq_of_wp fun st => ?_
  unfold m__law_told
  walk_at "v"
  refine vs_tryF (e := e) he (wrE_exB (wrE_callX ?_)) ht ?_
  · walk_at "v"
    exact ⟨rfl, h _⟩
  · show Wp _ _ _
    walk_at "v"
    rw [hn]
    refine if_t ?_
    walk_at "v"
    refine vs_eq hc ?_
    exact ⟨rfl, rfl⟩
theorem told_res {z r0 : Str} {ys : List Str} {r : U} (hz : z.length ≤ 15000) (hs : Txt.split z "\n" = r0 :: ys) (hm : ys.length < 60) (hr : Res1 (readU r0 ys) r) : m__law_told (.str z) = .ret r := by
  cases hr with
  | text e =>
    refine told_err (e := nt _) rfl rfl rfl (class_nt _) fun st => ?_
    obtain ⟨w, ew, hw⟩ := read_game_ok (st := st) (Q := fun o s => o = .rt (mkEx (nt _)) ∧ s = st) hz hs (fun i' e' => by rw [e] at e'; cases e'; exact ⟨rfl, rfl⟩) (fun a b c e' => by rw [e] at e'; cases e') (fun a b c y e' => by rw [e] at e'; cases e') hm
    rw [ew]
    exact wrE_fnX rfl hw
  | game e hf =>
    refine told_err (e := ng _) rfl rfl rfl (class_ng _) fun st => ?_
    obtain ⟨w, ew, hw⟩ := read_game_ok (st := st) (Q := fun o s => o = .rt (mkEx (ng _)) ∧ s = st) hz hs (fun i' e' => by rw [e] at e'; cases e') (fun a b c e' hf' => by rw [e] at e'; cases e'; rw [hf] at hf'; have := congrFun hf' []; cases this) (fun a b c y e' hf' => by rw [e] at e'; cases e'; rw [hf] at hf'; have := congrFun hf' []; cases this; exact ⟨rfl, rfl⟩) hm
    rw [ew]
    exact wrE_fnX rfl hw
  | @made a b c e hf hn =>
    refine eq_of_wp fun st => ?_
    unfold m__law_told
    walk_at "v"
    refine vs_tryN (vs_exB (vs_callX ?_))
    walk_at "v"
    obtain ⟨w, ew, hw⟩ := read_game_ok (st := st) (Q := FnK fun u s => u = gameO a b c ∧ s = st) hz hs (fun i' e' => by rw [e] at e'; cases e') (fun a b c e' hf' => by rw [e] at e'; cases e'; exact ⟨rfl, rfl⟩) (fun a b c y e' hf' => by rw [e] at e'; cases e'; rw [hf] at hf'; have := congrFun hf' []; cases this) hm
    rw [ew]
    refine (wp_fnX (Q := fun u s => u = gameO a b c ∧ s = st) (fun u s ⟨e, _⟩ => by rw [e]; rfl) (.fn (hw.mono fun o s q => by cases o <;> exact q))).mono ?_
    rintro _ s ⟨rfl, rfl⟩
    refine .nx ⟨_, rfl, ?_⟩
    show Wp _ _ _
    walk_at "v"
    refine if_no rfl ?_
    walk_at "v"
    exact ⟨e.symm, rfl⟩
theorem three_args (a b c : U) {st : Sto} {Q : List U → Sto → Prop} (q : Q [a, b, c] st) : Wp (consA (op2 ixU (M.ret (U.tup [a, b, c])) (M.ret (U.int 0))) (consA (op2 ixU (M.ret (U.tup [a, b, c])) (M.ret (U.int 1))) (consA (op2 ixU (M.ret (U.tup [a, b, c])) (M.ret (U.int 2))) nilA))) st Q := by
  walk_at "v"
  exact q
theorem due_res {z r0 : Str} {ys : List Str} {r : U} (hz : z.length ≤ 15000) (oz : okC z) (hs : Txt.split z "\n" = r0 :: ys) (hr : Res1 (readU r0 ys) r) : m__law_due (.str z) = .ret r := by
  have hd := read_law hz oz hs
  refine eq_of_wp fun st => ?_
  unfold m__law_due
  walk_at "v"
  refine vs_eq hd ?_
  walk_at "v"
  cases hr with
  | text e =>
    rw [e]
    refine wo_eq (a := .bl true) rfl ?_
    walk_at "v"
    exact ⟨rfl, rfl⟩
  | @game a b c y e hf =>
    rw [e]
    refine wo_eq (a := .bl false) rfl ?_
    walk_at "v"
    refine vs_tryF (e := ng y) rfl (wrE_exB (mk_bad hf ?_)) rfl ?_
    · exact three_args _ _ _ ⟨rfl, rfl⟩
    · show Wp _ _ _
      walk_at "v"
      refine vs_eq (class_ng y) ?_
      exact ⟨rfl, rfl⟩
  | @made a b c e hf hn =>
    rw [e]
    refine wo_eq (a := .bl false) rfl ?_
    walk_at "v"
    refine vs_tryN (vs_exB (mk_good hf hn (three_args _ _ _ ⟨rfl, ?_⟩)))
    refine .nx ⟨_, rfl, ?_⟩
    show Wp _ _ _
    walk_at "v"
    refine if_t ?_
    walk_at "v"
    exact ⟨rfl, rfl⟩
open NumText (AllDigits digitsVal)
theorem dig_le : ∀ (cs : List Nat) (acc : Nat), AllDigits cs → cs.foldl (fun acc c => acc * 10 + (c - 48)) acc < (acc + 1) * 10 ^ cs.length
  | [], acc, _ => by simp
  | c :: cs, acc, h => by
    have hc := h.head
    have ih := dig_le cs (acc * 10 + (c - 48)) h.tail
    rw [List.foldl_cons, List.length_cons]
    refine Nat.lt_of_lt_of_le ih ?_
    rw [Nat.pow_succ, Nat.mul_comm (10 ^ cs.length) 10, ← Nat.mul_assoc]
    exact Nat.mul_le_mul_right _ (by omega)
theorem nd_lt {z : Str} {n : Nat} (h : nd z = some n) : n < 1000000000 := by
  unfold nd at h
  split at h
  · rename_i c
    split at h
    · cases h
    · cases h
      have hzl : z.cps.toList.length = z.length := by simp [Str.length]
      have := dig_le z.cps.toList 0 (digB_all c.2)
      have h2 : 10 ^ z.cps.toList.length ≤ 10 ^ 9 := Nat.pow_le_pow_right (by decide) (by omega)
      show List.foldl _ 0 _ < _
      omega
  · cases h
theorem two_lt {r : List Str} {p : Nat × Nat} (h : two r = some p) : p.1 < 1000000000 ∧ p.2 < 1000000000 := by
  match r, h with
  | [a, b], h =>
    simp only [two] at h
    cases e1 : nd a with
    | none => rw [e1] at h; cases h
    | some i =>
      cases e2 : nd b with
      | none => rw [e1, e2] at h; cases h
      | some j =>
        rw [e1, e2] at h
        cases h
        exact ⟨nd_lt e1, nd_lt e2⟩
theorem row_lt (name y : Str) : (((rowN name y).getD (0, 0)).1 : Int).natAbs < 1000000000000 ∧ (((rowN name y).getD (0, 0)).2 : Int).natAbs < 1000000000000 := by
  cases e : rowN name y with
  | none => decide
  | some p =>
    have : p.1 < 1000000000 ∧ p.2 < 1000000000 := by
      unfold rowN at e
      cases ew : wrds y with
      | nil => rw [ew] at e; cases e
      | cons f r =>
        rw [ew] at e
        simp only at e
        by_cases hf : f = name
        · rw [if_pos hf] at e; exact two_lt e
        · rw [if_neg hf] at e; cases e
    show (p.1 : Int).natAbs < _ ∧ (p.2 : Int).natAbs < _
    omega
theorem three_tg {P Q : List Str} (hP : P.length ≤ 60) (hQ : Q.length ≤ 60) : Tg 20000 3 (three P Q) := by
  have t1 : Tg 6000 2 (.tup (P.map fun y => .int (((rowN "place" y).getD (0, 0)).1 : Int))) := by
    have := tg_tup (us := P.map fun y => U.int (((rowN "place" y).getD (0, 0)).1 : Int)) (w := 41) (k := 0) fun x m => by
      obtain ⟨y, _, rfl⟩ := List.mem_map.mp m
      exact tg_int (row_lt _ _).1 (Nat.le_refl _)
    refine this.mono ?_ (by decide)
    rw [List.length_map]; omega
  have t2 : Tg 6000 2 (.tup (P.map fun y => .int (((rowN "place" y).getD (0, 0)).2 : Int))) := by
    have := tg_tup (us := P.map fun y => U.int (((rowN "place" y).getD (0, 0)).2 : Int)) (w := 41) (k := 0) fun x m => by
      obtain ⟨y, _, rfl⟩ := List.mem_map.mp m
      exact tg_int (row_lt _ _).2 (Nat.le_refl _)
    refine this.mono ?_ (by decide)
    rw [List.length_map]; omega
  have t3 : Tg 6000 2 (.tup (Q.map fun y => prU (rowN "way" y))) := by
    have := tg_tup (us := Q.map fun y => prU (rowN "way" y)) (w := 84) (k := 1) fun x m => by
      obtain ⟨y, _, rfl⟩ := List.mem_map.mp m
      have h := row_lt "way" y
      cases e : rowN "way" y with
      | none => exact tg_non
      | some p =>
        rw [e] at h
        exact tg_tup (us := [.int (p.1 : Int), .int (p.2 : Int)]) (w := 41) (k := 0) fun x m => by
          rcases List.mem_cons.mp m with rfl | m
          · exact tg_int h.1 (Nat.le_refl _)
          · rw [List.mem_singleton.mp m]; exact tg_int h.2 (Nat.le_refl _)
    refine this.mono ?_ (by decide)
    rw [List.length_map]; omega
  have := tg_tup (us := [.tup (P.map fun y => .int (((rowN "place" y).getD (0, 0)).1 : Int)), .tup (P.map fun y => .int (((rowN "place" y).getD (0, 0)).2 : Int)), .tup (Q.map fun y => prU (rowN "way" y))]) (w := 6000) (k := 2) fun x m => by
    rcases List.mem_cons.mp m with rfl | m
    · exact t1
    · rcases List.mem_cons.mp m with rfl | m
      · exact t2
      · rw [List.mem_singleton.mp m]; exact t3
  exact this.mono (by simp) (by decide)
theorem txt_repr (i : Int) (hi : i.natAbs < 1000000000000) : ∃ x, reprE (txt i) = some (.str x) := by
  have : Tg (2 * (41 + 1)) 1 (txt i) := tg_tup (us := [.str "text", .int i]) (w := 41) (k := 0) fun x m => by
    rcases List.mem_cons.mp m with rfl | m
    · exact tg_str (okS_of _) (by decide)
    · rw [List.mem_singleton.mp m]; exact tg_int hi (Nat.le_refl _)
  exact this.repr (by decide) (by decide)
theorem res_ex {r0 : Str} {ys : List Str} (hm : ys.length < 60) : ∃ r, Res1 (readU r0 ys) r ∧ ∃ x, reprE r = some (.str x) := by
  have hp : (pre "place" ys).length ≤ ys.length := (List.takeWhile_prefix (p := isR "place") (l := ys)).length_le
  have hq : (pre "way" (ys.drop (pre "place" ys).length)).length ≤ ys.length := by
    have := (List.takeWhile_prefix (p := isR "way") (l := ys.drop (pre "place" ys).length)).length_le
    rw [List.length_drop] at this
    unfold pre at *; omega
  have aQ := pre_all "way" (ys.drop (pre "place" ys).length)
  by_cases q1 : r0 ≠ "game"
  · have e : readU r0 ys = .int 0 := by unfold readU; rw [if_pos q1]
    exact ⟨txt 0, .text e, txt_repr 0 (by decide)⟩
  by_cases q2 : (pre "place" ys).length + (pre "way" (ys.drop (pre "place" ys).length)).length < ys.length
  · have e : readU r0 ys = .int (((pre "place" ys).length + (pre "way" (ys.drop (pre "place" ys).length)).length + 1 : Nat) : Int) := by unfold readU; rw [if_neg q1, if_pos q2]
    exact ⟨txt _, .text e, txt_repr _ (by omega)⟩
  have e : readU r0 ys = three (pre "place" ys) (pre "way" (ys.drop (pre "place" ys).length)) := by unfold readU; rw [if_neg q1, if_neg q2]
  have ht : Tg 20000 3 (readU r0 ys) := by rw [e]; exact three_tg (by omega) (by omega)
  have e3 := e
  rw [three_at aQ] at e3
  obtain ⟨u, ef, hu⟩ := fault_b (O := (pre "place" ys).map fun y => (prI "place" y).1) (R := (pre "place" ys).map fun y => (prI "place" y).2) (W := (pre "way" (ys.drop (pre "place" ys).length)).map (prI "way")) (by rw [List.length_map]; omega) (by rw [List.length_map]; omega) (by rw [List.length_map]; omega)
  rcases hu with rfl | ⟨y, rfl, oy, ly⟩
  · exact ⟨_, .made e3 ef (nl_game _ _ _), ht.repr (by decide) (by decide)⟩
  · refine ⟨gam y, .game e3 ef, ?_⟩
    have : Tg (2 * (41 + 1)) 1 (gam y) := tg_tup (us := [.str "game", .str y]) (w := 41) (k := 0) fun x m => by
      rcases List.mem_cons.mp m with rfl | m
      · exact tg_str (okS_of _) (by decide)
      · rw [List.mem_singleton.mp m]; exact tg_str oy ly
    exact this.repr (by decide) (by decide)
theorem told_right {z : Str} (hz : z.length ≤ 15000) (oz : okC z) (hn : nlc z < 60) {st : Sto} {Q : U → Sto → Prop} (q : Q (.bl false) st) : Wp (op2 neU (op1 reprE (callM (L1 m__law_told) (consA (.ret (.str z)) nilA))) (op1 reprE (callM (L1 m__law_due) (consA (.ret (.str z)) nilA)))) st Q := by
  have hl : (Txt.split z "\n").length = nlc z + 1 := by rw [nl_at]; exact rows_len z
  cases hs : Txt.split z "\n" with
  | nil => rw [hs] at hl; cases hl
  | cons r0 ys =>
    rw [hs, List.length_cons] at hl
    obtain ⟨r, hr, x, hx⟩ := res_ex (r0 := r0) (ys := ys) (by omega)
    walk_at "v"
    refine vs_eq (told_res hz hs (by omega) hr) ?_
    refine wo_eq hx ?_
    walk_at "v"
    refine vs_eq (due_res hz oz hs hr) ?_
    refine wo_eq hx ?_
    walk_at "v"
    rw [decide_eq_true rfl]
    exact q
theorem wo_pick0 {P : U → Prop} {b : Bool} (q : P (.int (if b then 1 else 0))) : WpO (int1U (.bl b)) P := ⟨_, by cases b <;> rfl, q⟩
theorem nb_ints : ∀ l : List Int, nbA (l.map U.int) = true ∧ dpA (l.map U.int) = 0
  | [] => ⟨rfl, rfl⟩
  | x :: l => by
    rw [List.map_cons]
    exact ⟨by show (nbU _ && nbA _) = true; rw [(nb_ints l).1]; rfl, by show max _ (dpA _) = 0; rw [(nb_ints l).2]; rfl⟩
theorem eq_nil_ints (r : List Int) : eqU (.lst (r.map U.int)) (.lst []) = some (.bl (decide (r = []))) :=
  eqU_nb (show nbU (.lst _) = true from (nb_ints r).1) rfl (by show dpA _ + 1 ≤ 64; rw [(nb_ints r).2]; decide) (by decide) (by rw [decide_eq_true_eq]; simp)
theorem game_ok {st : Sto} {Q : U → Sto → Prop} (h : Hd st) (k : ∀ (O R : List Int) (W : List (Int × Int)) (s : Sto), O.length ≤ 6 → R.length ≤ 6 → W.length ≤ 36 → (∀ x ∈ O, 0 ≤ x ∧ x < 10) → (∀ x ∈ R, 0 ≤ x ∧ x < 10) → (∀ p ∈ W, (0 ≤ p.1 ∧ p.1 < 10) ∧ 0 ≤ p.2 ∧ p.2 < 10) → Hd s → Q (.tup [.tup (O.map .int), .tup (R.map .int), .tup (W.map dU)]) s) : Wp (m__law_game (.loc 0) (.int 6)) st Q := by
  have sl : (1000002 : Nat) ≤ sizeLine := by decide
  unfold m__law_game
  walk_at "v"
  refine tk h (by decide) (by decide) fun n0 s n1 n2 h2 => ?_
  walk_at "v"
  have rows : ∀ (m : Int) (s : Sto) (Q : List U → Sto → Prop), 0 < m → m ≤ 10 → Hd s → (∀ (O : List Int) s, O.length = (1 + n0).toNat → (∀ x ∈ O, 0 ≤ x ∧ x < 10) → Hd s → Q (O.map .int) s) → Wp (compM (fun _ => M.ret true) (fun _ => (callM (L2' m__law_pick) (consA (.ret (.loc 0)) (consA (.ret (.int m)) nilA)))) ((List.range (1 + n0).toNat).map fun i => U.int (i : Nat))) s Q := fun m s Q m0 m1 hs kq => by
    refine vs_compN (d := U.int) (fun i r s => r.length = i ∧ (∀ x ∈ r, 0 ≤ x ∧ x < 10) ∧ Hd s) ⟨rfl, (fun _ m => nomatch m), hs⟩ ?_ ?_
    · rintro i r s hi ⟨lr, br, hs⟩
      walk_at "v"
      refine tk hs m0 (by omega) fun a s a0 a1 hs => ?_
      exact ⟨a, rfl, by simp [lr], fun x mx => (List.mem_append.mp mx).elim (br x) fun mx => by rw [List.mem_singleton.mp mx]; omega, hs⟩
    · rintro r s ⟨lr, br, hs⟩
      exact kq r s lr br hs
  refine rows 2 s _ (by decide) (by decide) h2 fun O s lO bO h3 => ?_
  refine ⟨by rw [List.length_map]; omega, ?_⟩
  walk_at "v"
  refine rows 10 s _ (by decide) (by decide) h3 fun R s lR bR h4 => ?_
  refine ⟨by rw [List.length_map]; omega, ?_⟩
  walk_at "v"
  refine vs_forN (e := fun W : List (Int × Int) => U.lst (W.map dU)) (t0 := []) (fun i W s => W.length ≤ 6 * i ∧ (∀ p ∈ W, (0 ≤ p.1 ∧ p.1 < 10) ∧ 0 ≤ p.2 ∧ p.2 < 10) ∧ Hd s) rfl ⟨Nat.zero_le _, (fun _ m => nomatch m), h4⟩ ?_ ?_
  · rintro i W s hi ⟨lW, bW, h5⟩
    walk_at "v"
    refine vs_compN (d := U.int) (fun j r s => r.length ≤ j ∧ (∀ x ∈ r, 0 ≤ x ∧ x < 10) ∧ Hd s) ⟨Nat.le_refl _, (fun _ m => nomatch m), h5⟩ ?_ ?_
    · rintro j r s hj ⟨lr, br, hs⟩
      walk_at "v"
      refine tk hs (by decide) (by decide) fun a s a0 a1 hs => ?_
      walk_at "v"
      refine if_any (fun q => ?_) fun q => ?_
      · walk_at "v"
        exact ⟨(j : Int), rfl, by simp; omega, fun x mx => (List.mem_append.mp mx).elim (br x) fun mx => by rw [List.mem_singleton.mp mx]; omega, hs⟩
      · exact ⟨by omega, br, hs⟩
    · rintro r s ⟨lr, br, h6⟩
      walk_at "v"
      refine ⟨by rw [List.length_map]; omega, ?_⟩
      walk_at "v"
      refine tk (m := 1 + n0) h6 (by omega) (by omega) fun p s p0 p1 h7 => ?_
      walk_at "v"
      refine wo_eq (eq_nil_ints r) ?_
      walk_at "v"
      refine wo_pick0 ?_
      have hL : ∃ L : List Int, L.length ≤ 6 ∧ (∀ x ∈ L, 0 ≤ x ∧ x < 10) ∧ ∃ m : List U, mulU (.lst [.int p]) (.int (if decide (r = []) then 1 else 0)) = some (.lst m) ∧ m.length ≤ 1 ∧ r.map U.int ++ m = L.map U.int := by
        by_cases hr : r = []
        · subst hr
          exact ⟨[p], by simp, fun x mx => by rw [List.mem_singleton.mp mx]; omega, [.int p], by simp [mulU]; omega, by simp, rfl⟩
        · refine ⟨r, by omega, br, [], ?_, by simp, by simp⟩
          rw [decide_eq_false hr]
          simp [mulU]
      obtain ⟨L, lL, bL, m, em, lm, eL⟩ := hL
      refine wo_eq em ?_
      refine wo_addL (by rw [List.length_map]; omega) ?_
      rw [eL]
      walk_at "v"
      have hc := comp_eq (c := U.int) (d := id) (p := fun _ => true) (g := fun e : Int => dU ((i : Int), e)) (xs := L) (wt := fun _ => .ret true) (we := fun end_23 => (tupW (consA (.ret (.int (i : Nat))) (consA (.ret end_23) nilA)))) fun e me => ⟨rfl, fun _ => by
        refine eq_of_wp fun st => ?_
        walk_at "v"
        exact ⟨rfl, rfl⟩⟩
      rw [List.filter_eq_self.mpr (fun _ _ => rfl), List.map_id] at hc
      refine vs_eq hc ?_
      refine ⟨by rw [List.length_map]; omega, ?_⟩
      walk_at "v"
      refine wo_ext (a := W.map dU) (b := L.map fun e => dU ((i : Int), e)) (by rw [List.length_map, List.length_map]; omega) ?_
      walk_at "v"
      refine ⟨W ++ L.map fun e => ((i : Int), e), ?_, ?_, ?_, h7⟩
      · rw [List.map_append, List.map_map]; rfl
      · rw [List.length_append, List.length_map]; omega
      · intro q mq
        rcases List.mem_append.mp mq with mq | mq
        · exact bW q mq
        · obtain ⟨e, me, rfl⟩ := List.mem_map.mp mq
          have := bL e me
          exact ⟨by show 0 ≤ (i : Int) ∧ (i : Int) < 10; omega, this⟩
  · rintro W s ⟨lW, bW, h5⟩
    walk_at "v"
    exact k O R W s (by omega) (by omega) (by omega) bO bR bW h5
def Sn (i : Int) : Str := Str.ofString (toString i)
theorem Sn_at {i : Int} (h0 : 0 ≤ i) (h1 : i < 10) : strOU (.int i) = some (.str (Sn i)) ∧ okC (Sn i) ∧ (Sn i).length ≤ 1 ∧ 10 ∉ (Sn i).cps.toList := by
  have hl := log_small (i := i) (by omega)
  have key : ∀ k : Fin 10, (Str.ofString (toString ((k : Nat) : Int))).length ≤ 1 ∧ 10 ∉ (Str.ofString (toString ((k : Nat) : Int))).cps.toList := by decide +kernel
  have hk := key ⟨i.toNat, by omega⟩
  rw [show (((⟨i.toNat, by omega⟩ : Fin 10) : Nat) : Int) = i by show ((i.toNat : Nat) : Int) = i; omega] at hk
  exact ⟨if_pos (by omega), okC_of _, hk.1, hk.2⟩
def rowS (nm : Str) (p : Int × Int) : Str := nm ++ Sn p.1 ++ " " ++ Sn p.2
def Sm (p : Int × Int) : Prop := (0 ≤ p.1 ∧ p.1 < 10) ∧ 0 ≤ p.2 ∧ p.2 < 10
theorem rowS_ok {nm : Str} (hn : nm.length ≤ 6 ∧ okC nm ∧ 10 ∉ nm.cps.toList) {p : Int × Int} (hp : Sm p) : okC (rowS nm p) ∧ (rowS nm p).length ≤ 9 ∧ 10 ∉ (rowS nm p).cps.toList := by
  obtain ⟨_, o1, l1, f1⟩ := Sn_at hp.1.1 hp.1.2
  obtain ⟨_, o2, l2, f2⟩ := Sn_at hp.2.1 hp.2.2
  have e1 : Str.length " " = 1 := by decide +kernel
  refine ⟨okC_app (okC_app (okC_app hn.2.1 o1) (okC_of _)) o2, ?_, ?_⟩
  · unfold rowS; rw [app_len, app_len, app_len, e1]; omega
  · unfold rowS
    rw [app_mem, app_mem, app_mem]
    have : 10 ∉ (Str.ofString " ").cps.toList := by decide +kernel
    rintro (((h | h) | h) | h)
    · exact hn.2.2 h
    · exact f1 h
    · exact this h
    · exact f2 h
theorem row_at {nm : Str} (hn : nm.length ≤ 6 ∧ okC nm ∧ 10 ∉ nm.cps.toList) {p : Int × Int} (hp : Sm p) : op2 addU (op2 addU (op2 addU (M.ret (.str nm)) (op1 strOU (M.ret (.int p.1)))) (M.ret (.str " "))) (op1 strOU (M.ret (.int p.2))) = .ret (.str (rowS nm p)) := by
  obtain ⟨c1, o1, l1, f1⟩ := Sn_at hp.1.1 hp.1.2
  obtain ⟨c2, o2, l2, f2⟩ := Sn_at hp.2.1 hp.2.2
  have e1 : Str.length " " = 1 := by decide +kernel
  refine eq_of_wp fun st => ?_
  walk_at "v"
  refine wo_eq c1 ?_
  refine wo_addS (by omega) ?_
  walk_at "v"
  refine wo_addS (by rw [app_len]; omega) ?_
  walk_at "v"
  refine wo_eq c2 ?_
  refine wo_addS (by rw [app_len, app_len]; omega) ?_
  exact ⟨rfl, rfl⟩
theorem rows_comp {nm : Str} (hn : nm.length ≤ 6 ∧ okC nm ∧ 10 ∉ nm.cps.toList) {ps : List (Int × Int)} (hp : ∀ p ∈ ps, Sm p) : compM (fun e => un2 e fun _ _ => M.ret true) (fun e => un2 e fun a b => op2 addU (op2 addU (op2 addU (M.ret (.str nm)) (op1 strOU (M.ret a))) (M.ret (.str " "))) (op1 strOU (M.ret b))) (ps.map dU) = .ret ((ps.map (rowS nm)).map .str) := by
  have := comp_eq (c := dU) (d := U.str) (p := fun _ => true) (g := rowS nm) (xs := ps) (wt := fun e => un2 e fun _ _ => M.ret true) (we := fun e => un2 e fun a b => op2 addU (op2 addU (op2 addU (M.ret (.str nm)) (op1 strOU (M.ret a))) (M.ret (.str " "))) (op1 strOU (M.ret b))) fun p m => ⟨rfl, fun _ => row_at hn (hp p m)⟩
  rw [List.filter_eq_self.mpr (fun _ _ => rfl)] at this
  exact this
theorem rows_ss {nm : Str} (hn : nm.length ≤ 6 ∧ okC nm ∧ 10 ∉ nm.cps.toList) {ps : List (Int × Int)} (hp : ∀ p ∈ ps, Sm p) : Ss ((ps.map (rowS nm)).map .str) ∧ Fr10 ((ps.map (rowS nm)).map .str) ∧ wt ((ps.map (rowS nm)).map .str) ≤ 10 * ps.length := by
  refine ⟨.map fun y m => ?_, fun u m => ?_, ?_⟩
  · obtain ⟨p, mp, rfl⟩ := List.mem_map.mp m
    exact (rowS_ok hn (hp p mp)).1
  · obtain ⟨y, my, rfl⟩ := List.mem_map.mp m
    obtain ⟨p, mp, rfl⟩ := List.mem_map.mp my
    exact ⟨_, rfl, (rowS_ok hn (hp p mp)).2.2⟩
  · induction ps with
    | nil => exact Nat.zero_le _
    | cons p ps ih =>
      have h1 := (rowS_ok hn (hp p List.mem_cons_self)).2.1
      have h2 := ih fun q m => hp q (List.mem_cons_of_mem _ m)
      have e : wt (((p :: ps).map (rowS nm)).map .str) = (rowS nm p).length + 1 + wt ((ps.map (rowS nm)).map .str) := by simp [wt, sz]
      rw [e, List.length_cons]; omega
theorem pl_ok : Str.length "place " ≤ 6 ∧ okC "place " ∧ 10 ∉ (Str.ofString "place ").cps.toList := ⟨by decide +kernel, okC_of _, by decide +kernel⟩
theorem wy_ok : Str.length "way " ≤ 6 ∧ okC "way " ∧ 10 ∉ (Str.ofString "way ").cps.toList := ⟨by decide +kernel, okC_of _, by decide +kernel⟩
theorem text_ok {O R : List Int} {W : List (Int × Int)} (lO : O.length ≤ 6) (lR : R.length ≤ 6) (lW : W.length ≤ 36) (bO : ∀ x ∈ O, 0 ≤ x ∧ x < 10) (bR : ∀ x ∈ R, 0 ≤ x ∧ x < 10) (bW : ∀ p ∈ W, (0 ≤ p.1 ∧ p.1 < 10) ∧ 0 ≤ p.2 ∧ p.2 < 10) {st : Sto} {Q : U → Sto → Prop} (k : ∀ z : Str, okC z → z.length ≤ 480 → nlc z ≤ 42 → Q (.str z) st) : Wp (m__law_game_text (.tup [.tup (O.map .int), .tup (R.map .int), .tup (W.map dU)])) st Q := by
  have sl : (1000002 : Nat) ≤ sizeLine := by decide
  unfold m__law_game_text
  walk_at "v"
  have ez : zipL (O.map U.int) (R.map U.int) = (O.zip R).map dU := by
    unfold zipL
    rw [List.zipWith_map, List.zip, List.map_zipWith]
  rw [ez]
  have bz : ∀ p ∈ O.zip R, Sm p := fun p m => ⟨bO p.1 (List.of_mem_zip m).1, bR p.2 (List.of_mem_zip m).2⟩
  have lz : (O.zip R).length ≤ 6 := by rw [List.length_zip]; omega
  obtain ⟨s1, f1, w1⟩ := rows_ss pl_ok bz
  obtain ⟨s2, f2, w2⟩ := rows_ss wy_ok bW
  refine vs_eq (rows_comp pl_ok bz) ?_
  refine ⟨by rw [List.length_map, List.length_map]; omega, ?_⟩
  refine wo_addL (by simp; omega) ?_
  walk_at "v"
  refine vs_eq (rows_comp wy_ok bW) ?_
  refine ⟨by rw [List.length_map, List.length_map]; omega, ?_⟩
  refine wo_addL (by simp; omega) ?_
  have eg : wt [U.str "game"] = 5 := by decide +kernel
  have nn : nlc "\n" = 1 := by decide +kernel
  have fg : Fr10 [U.str "game"] := .one (by decide +kernel)
  refine wo_joinN (by decide +kernel) (okC_of _) (((Ss.one (okC_of _)).app s1).app s2) ((fg.app f1).app f2) (by rw [wt_app, wt_app]; omega) fun z lz' oz nz => ?_
  rw [wt_app, wt_app] at lz'
  refine k z oz (by omega) ?_
  rw [nz, nn, Nat.mul_one, List.length_append, List.length_append, List.length_map, List.length_map, List.length_map, List.length_map, List.length_singleton]
  omega
theorem tx_eq : eqU (txt 0) (txt 0) = some (.bl true) := eqU_nb (by decide +kernel) (by decide +kernel) (by decide) (by decide) (by simp)
theorem told_other {u : U} (h : isiU u "str" = some (.bl false)) : m__law_told u = .ret (txt 0) := by
  refine told_err (e := nt 0) rfl rfl rfl (class_nt 0) fun st => ?_
  have hr : WrE (m_rows_of u) st (nt 0) := by
    unfold m_rows_of
    refine wrE_fnX rfl ?_
    walk_at "v"
    refine wo_eq h ?_
    walk_at "v"
    exact ⟨rfl, rfl⟩
  refine wrE_fnX rfl ?_
  refine wrE_exB (wrE_callX ?_)
  walk_at "v"
  exact ⟨rfl, hr⟩
theorem told_text {z r0 : Str} {ys : List Str} (hz : z.length ≤ 15000) (hs : Txt.split z "\n" = r0 :: ys) (hm : ys.length < 60) (h0 : r0 ≠ "game") : m__law_told (.str z) = .ret (txt 0) :=
  told_res hz hs hm (.text (by unfold readU; rw [if_pos h0]))
def lastS : List U := [.non, .bl true, .int 0, .lst [.str "game", .str "place 0 0"], .tup [.tup [.int 0], .tup [.int 0], .tup [.tup [.int 0, .int 0]]], .dct [] [], .str "", .str "\n", .str " ", .str "game "]
theorem last_told : ∀ u ∈ lastS, m__law_told u = .ret (txt 0) := fun u m => by
  unfold lastS at m
  simp only [List.mem_cons, List.not_mem_nil, or_false] at m
  rcases m with rfl | rfl | rfl | rfl | rfl | rfl | rfl | rfl | rfl | rfl
  · exact told_other rfl
  · exact told_other rfl
  · exact told_other rfl
  · exact told_other rfl
  · exact told_other rfl
  · exact told_other rfl
  · exact told_text (r0 := "") (ys := []) (by decide +kernel) (by decide +kernel) (by decide) (by decide +kernel)
  · exact told_text (r0 := "") (ys := [""]) (by decide +kernel) (by decide +kernel) (by decide) (by decide +kernel)
  · exact told_text (r0 := " ") (ys := []) (by decide +kernel) (by decide +kernel) (by decide) (by decide +kernel)
  · exact told_text (r0 := "game ") (ys := []) (by decide +kernel) (by decide +kernel) (by decide) (by decide +kernel)
def bnd : Nat → Nat
  | 0 => 480
  | n + 1 => 3 * bnd n + 40
abbrev hds : List U := [.str "game", .str "place 0 1", .str "place 1 0", .str "way 0 0", .str "way 1 0", .str "hall 1 1 0 again", .str "places 0 1"]
theorem hds_ss : Ss hds := .cons (okC_of _) (.cons (okC_of _) (.cons (okC_of _) (.cons (okC_of _) (.cons (okC_of _) (.cons (okC_of _) (.one (okC_of _)))))))
theorem hds_fr : Fr10 hds := .cons (by decide +kernel) (.cons (by decide +kernel) (.cons (by decide +kernel) (.cons (by decide +kernel) (.cons (by decide +kernel) (.cons (by decide +kernel) (.one (by decide +kernel)))))))
theorem hds_len (w : Str) (m : U.str w ∈ hds) : w.length ≤ 16 := by
  have : ∀ u ∈ hds, sz u ≤ 17 := by decide +kernel
  have := this _ m
  have e : sz (.str w) = w.length + 1 := rfl
  omega
theorem law_wp {ns : List Int} (h : ns.length ≤ 63) : Wp (m_law (.frl (ns.map .int))) [] fun u _ => u = .bl true := by
  unfold m_law
  walk_at "v"
  refine (hand_ok h).mono ?_
  rintro _ st ⟨rfl, h1⟩
  walk_at "v"
  refine vs_forN (e := fun _ : Unit => ()) (t0 := ()) (fun _ _ s => Hd s) rfl h1 ?_ ?_
  · rintro i _ s hi h2
    walk_at "v"
    refine game_ok h2 fun O R W s lO lR lW bO bR bW h3 => ?_
    walk_at "v"
    refine text_ok lO lR lW bO bR bW fun t ot lt nt' => ?_
    walk_at "v"
    refine vs_forN (e := fun _ : Unit => ()) (t0 := ()) (fun _ _ s => Hd s) rfl h3 ?_ ?_
    · rintro j _ s hj h7
      walk_at "v"
      have hsp : ∀ (n : Nat) (s : Sto), n ≤ 3 → Hd s → Wp (forO (fun _ s_11 => (.bind (callM (L3 m__law_spoilt) (consA (.ret (.loc 0)) (consA (.ret s_11) (consA (.ret (.lst hds)) nilA)))) fun thing_13 => (nxO thing_13))) ((List.range n).map fun i => U.int (i : Nat)) (U.str t)) s fun o s => ∃ z : Str, o = (.nx (.str z) : Out U Unit) ∧ okC z ∧ z.length ≤ 15000 ∧ nlc z ≤ 45 ∧ Hd s := by
        intro n s hn h8
        have hb : bnd 0 = 480 ∧ bnd 1 = 1480 ∧ bnd 2 = 4480 ∧ bnd 3 = 13480 := by decide
        refine vs_forN (e := U.str) (t0 := t) (fun i z s => okC z ∧ z.length ≤ bnd i ∧ nlc z ≤ 42 + i ∧ Hd s) rfl ⟨ot, lt, by omega, h8⟩ ?_ ?_
        · rintro k z s hk ⟨oz, lz, nz, h9⟩
          have hbk : bnd k ≤ 10000 := by rcases (show k = 0 ∨ k = 1 ∨ k = 2 by omega) with rfl | rfl | rfl <;> omega
          walk_at "v"
          refine spoiltN (n := bnd k) h9 oz lz hbk hds_ss hds_fr (by decide) (by decide) hds_len fun r s or lr nr h10 => ?_
          walk_at "v"
          exact ⟨r, rfl, or, lr, by omega, h10⟩
        · rintro z s ⟨oz, lz, nz, h9⟩
          refine ⟨z, rfl, oz, ?_, by omega, h9⟩
          rcases (show n = 0 ∨ n = 1 ∨ n = 2 ∨ n = 3 by omega) with rfl | rfl | rfl | rfl <;> omega
      refine if_any (fun q1 => ?_) fun q1 => ?_
      · walk_at "v"
        refine of_ok h7 (by simp) (by simp) fun u s mu h8 => ?_
        have hu : ∃ c : Int, u = .int c ∧ 0 ≤ c ∧ c ≤ 3 := by
          simp at mu
          rcases mu with rfl | rfl | rfl
          · exact ⟨_, rfl, by decide, by decide⟩
          · exact ⟨_, rfl, by decide, by decide⟩
          · exact ⟨_, rfl, by decide, by decide⟩
        obtain ⟨c, rfl, c0, c2⟩ := hu
        walk_at "v"
        refine (hsp c.toNat s (by omega) h8).mono ?_
        rintro _ s ⟨z, rfl, oz, lz, nz, h9⟩
        show Wp _ _ _
        refine vs_ite (vs_test (told_right lz oz (by omega) ?_))
        walk_at "v"
        exact ⟨(), rfl, h9⟩
      · walk_at "v"
        refine (hsp 0 s (by omega) h7).mono ?_
        rintro _ s ⟨z, rfl, oz, lz, nz, h9⟩
        show Wp _ _ _
        refine vs_ite (vs_test (told_right lz oz (by omega) ?_))
        walk_at "v"
        exact ⟨(), rfl, h9⟩
    · rintro _ s h7
      walk_at "v"
      exact ⟨(), rfl, h7⟩
  · rintro _ s h2
    show Wp _ _ _
    walk_at "v"
    have hc := comp_eq (c := id) (d := U.bl) (p := fun _ => true) (g := fun _ => true) (xs := lastS) (wt := fun _ => .ret true) (we := fun thing_17 => (op2 eqU (callM (L1 m__law_told) (consA (.ret thing_17) nilA)) (tupW (consA (.ret (.str "text")) (consA (.ret (.int 0)) nilA))))) fun x m => ⟨rfl, fun _ => by
      refine eq_of_wp fun st => ?_
      walk_at "v"
      refine vs_eq (last_told x m) ?_
      walk_at "v"
      refine wo_eq tx_eq ?_
      exact ⟨rfl, rfl⟩⟩
    rw [List.map_id] at hc
    refine vs_eq hc ?_
    rw [List.filter_eq_self.mpr (fun _ _ => rfl)]
    refine ⟨by rw [List.length_map, List.length_map]; decide, ?_⟩
    refine wo_eq (allb_at _) ?_
    show U.bl _ = U.bl true
    rw [List.all_map]
    congr 1
theorem law_ok : ∀ ns : List Int, ns.length ≤ 63 → ∃ st', m_law (.frl (ns.map .int)) [] = some (.ok (.bl true), st') := by
  intro ns hns
  obtain ⟨u, st, e, rfl⟩ := law_wp hns
  exact ⟨st, e⟩
open HD
theorem facts {P : Program} {w : World} {K : PySem.W.Frag} {h : Heap} {mg : Str → Option Value} {f : Addr} (X : K.In h) (G : h.Ns mainGlobals mg) (hfa : mg ("law" : Str) = some (.ref f)) (c0 : SaysS fa fn ts vls xs w K) :
    ∃ fd : FuncData, (∀ (s : Shared) (v : Value), BindsTo s fd ⟨[v], []⟩ [("_law_script", v)]) ∧ ∀ base : Heap, K.In base → base.Ns mainGlobals mg → FnG P w K mg base CX0 10 f fd ["_law_script"] (spM ⟨K, He.ga K⟩ (L1 m_law)) := by
  have c : SaysU fa fn ts vls w K := c0.1.u
  obtain ⟨fd__law_hand, F__law_hand⟩ := c.d.def_ 0 (d := mkD "_law_hand" 37) rfl
  obtain ⟨fd__law_game_text, F__law_game_text⟩ := c.d.def_ 1 (d := mkD "_law_game_text" 41) rfl
  obtain ⟨fd__law_pick, F__law_pick⟩ := c.d.def_ 2 (d := mkD "_law_pick" 38) rfl
  obtain ⟨fd__law_game, F__law_game⟩ := c.d.def_ 3 (d := mkD "_law_game" 40) rfl
  obtain ⟨fd__law_of, F__law_of⟩ := c.d.def_ 4 (d := mkD "_law_of" 39) rfl
  obtain ⟨fd__law_sign_changed, F__law_sign_changed⟩ := c.d.def_ 5 (d := mkD "_law_sign_changed" 43) rfl
  obtain ⟨fd__law_words_changed, F__law_words_changed⟩ := c.d.def_ 6 (d := mkD "_law_words_changed" 42) rfl
  obtain ⟨fd__law_spoilt, F__law_spoilt⟩ := c.d.def_ 7 (d := mkD "_law_spoilt" 44) rfl
  obtain ⟨fd_rows_of, F_rows_of⟩ := c.d.def_ 8 (d := mkD "rows_of" 30) rfl
  obtain ⟨fd_number_of, F_number_of⟩ := c.d.def_ 9 (d := mkD "number_of" 27) rfl
  obtain ⟨fd_numbers_of, F_numbers_of⟩ := c.d.def_ 10 (d := mkD "numbers_of" 28) rfl
  obtain ⟨fd_numbers_behind, F_numbers_behind⟩ := c.d.def_ 11 (d := mkDd "numbers_behind" 29 [.non]) rfl
  obtain ⟨fd_place_in_game, F_place_in_game⟩ := c.d.def_ 12 (d := mkD "place_in_game" 34) rfl
  obtain ⟨fd_way_in_game, F_way_in_game⟩ := c.d.def_ 13 (d := mkD "way_in_game" 33) rfl
  obtain ⟨fd_taken, F_taken⟩ := c.d.def_ 14 (d := mkD "taken" 31) rfl
  obtain ⟨fd_check_end, F_check_end⟩ := c.d.def_ 15 (d := mkD "check_end" 32) rfl
  obtain ⟨fd_is_whole, F_is_whole⟩ := c.d.def_ 16 (d := mkD "is_whole" 13) rfl
  obtain ⟨fd_is_below, F_is_below⟩ := c.d.def_ 17 (d := mkD "is_below" 14) rfl
  obtain ⟨fd_are_below, F_are_below⟩ := c.d.def_ 18 (d := mkD "are_below" 19) rfl
  obtain ⟨fd_are_owners, F_are_owners⟩ := c.d.def_ 19 (d := mkD "are_owners" 20) rfl
  obtain ⟨fd_are_rising, F_are_rising⟩ := c.d.def_ 20 (d := mkD "are_rising" 15) rfl
  obtain ⟨fd_are_ways, F_are_ways⟩ := c.d.def_ 21 (d := mkD "are_ways" 21) rfl
  obtain ⟨fd_fault_of, F_fault_of⟩ := c.d.def_ 22 (d := mkD "fault_of" 22) rfl
  obtain ⟨fd_Game___init__, F_Game___init__⟩ := c.d.def_ 23 (d := mkMt "Game" "__init__" "Game.__init__" 23 0) rfl
  obtain ⟨fd_read_game, F_read_game⟩ := c.d.def_ 24 (d := mkD "read_game" 35) rfl
  obtain ⟨fd__law_class, F__law_class⟩ := c.d.def_ 25 (d := mkD "_law_class" 46) rfl
  obtain ⟨fd__law_told, F__law_told⟩ := c.d.def_ 26 (d := mkD "_law_told" 48) rfl
  obtain ⟨fd__law_numbers, F__law_numbers⟩ := c.d.def_ 27 (d := mkD "_law_numbers" 45) rfl
  obtain ⟨fd__law_read, F__law_read⟩ := c.d.def_ 28 (d := mkD "_law_read" 47) rfl
  obtain ⟨fd__law_due, F__law_due⟩ := c.d.def_ 29 (d := mkD "_law_due" 49) rfl
  obtain ⟨fd_law, F_law⟩ := c.d.def_ 30 (d := mkD "law" 50) rfl
  obtain ⟨fd_NoText___init__, F_NoText___init__⟩ := c.d.def_ 31 (d := mkMt "NoText" "__init__" "NoText.__init__" 5 0) rfl
  obtain ⟨fd_NoGame___init__, F_NoGame___init__⟩ := c.d.def_ 32 (d := mkMt "NoGame" "__init__" "NoGame.__init__" 4 0) rfl
  have g : ∀ (i : Nat) (x : Str), fa[i]? = some (.glo x) → mg x = some (.ref (He.ga K x)) := fun i x e => He.glo_ok X G (c.d.fact i e)
  have m : ∀ (i : Nat) (x : Str), fa[i]? = some (.free x) → mg x = none := fun i x e => He.free_ok X G (c.d.fact i e)
  obtain ⟨t_MOST_FIGURES, k_MOST_FIGURES⟩ := He.int_ok X G (c.d.fact 60 (f := .int "MOST_FIGURES" 9) rfl)
  obtain ⟨t_FIGURES, k_FIGURES⟩ := He.str_ok X G (c.d.fact 61 (f := .str "FIGURES" "0123456789") rfl)
  obtain ⟨t_SIDES, k_SIDES⟩ := He.int_ok X G (c.d.fact 62 (f := .int "SIDES" 2) rfl)
  obtain ⟨t_RANKS, k_RANKS⟩ := He.int_ok X G (c.d.fact 63 (f := .int "RANKS" 10) rfl)
  have g_law := g 29 "law" rfl
  cases hfa.symm.trans g_law
  let N : En w K mg := {
    m_ValueError := m 30 "ValueError" rfl,
    m_all := m 31 "all" rfl,
    m_bool := m 32 "bool" rfl,
    m_enumerate := m 33 "enumerate" rfl,
    m_int := m 34 "int" rfl,
    m_isinstance := m 35 "isinstance" rfl,
    m_len := m 36 "len" rfl,
    m_range := m 37 "range" rfl,
    m_repr := m 38 "repr" rfl,
    m_str := m 39 "str" rfl,
    m_tuple := m 40 "tuple" rfl,
    m_zip := m 41 "zip" rfl,
    fd__law_hand := fd__law_hand,
    F__law_hand := F__law_hand,
    g__law_hand := g 0 "_law_hand" rfl,
    b__law_hand := F__law_hand.bindsN fun _ _ _ _ _ _ us hl => match us, hl with | [_], _ => rfl,
    fd__law_game_text := fd__law_game_text,
    F__law_game_text := F__law_game_text,
    g__law_game_text := g 1 "_law_game_text" rfl,
    b__law_game_text := F__law_game_text.bindsN fun _ _ _ _ _ _ us hl => match us, hl with | [_], _ => rfl,
    fd__law_pick := fd__law_pick,
    F__law_pick := F__law_pick,
    g__law_pick := g 2 "_law_pick" rfl,
    b__law_pick := F__law_pick.bindsN fun _ _ _ _ _ _ us hl => match us, hl with | [_, _], _ => rfl,
    fd__law_game := fd__law_game,
    F__law_game := F__law_game,
    g__law_game := g 3 "_law_game" rfl,
    b__law_game := F__law_game.bindsN fun _ _ _ _ _ _ us hl => match us, hl with | [_, _], _ => rfl,
    fd__law_of := fd__law_of,
    F__law_of := F__law_of,
    g__law_of := g 4 "_law_of" rfl,
    b__law_of := F__law_of.bindsN fun _ _ _ _ _ _ us hl => match us, hl with | [_, _], _ => rfl,
    fd__law_sign_changed := fd__law_sign_changed,
    F__law_sign_changed := F__law_sign_changed,
    g__law_sign_changed := g 5 "_law_sign_changed" rfl,
    b__law_sign_changed := F__law_sign_changed.bindsN fun _ _ _ _ _ _ us hl => match us, hl with | [_, _], _ => rfl,
    fd__law_words_changed := fd__law_words_changed,
    F__law_words_changed := F__law_words_changed,
    g__law_words_changed := g 6 "_law_words_changed" rfl,
    b__law_words_changed := F__law_words_changed.bindsN fun _ _ _ _ _ _ us hl => match us, hl with | [_, _, _], _ => rfl,
    fd__law_spoilt := fd__law_spoilt,
    F__law_spoilt := F__law_spoilt,
    g__law_spoilt := g 7 "_law_spoilt" rfl,
    b__law_spoilt := F__law_spoilt.bindsN fun _ _ _ _ _ _ us hl => match us, hl with | [_, _, _], _ => rfl,
    fd_rows_of := fd_rows_of,
    F_rows_of := F_rows_of,
    g_rows_of := g 8 "rows_of" rfl,
    b_rows_of := F_rows_of.bindsN fun _ _ _ _ _ _ us hl => match us, hl with | [_], _ => rfl,
    fd_number_of := fd_number_of,
    F_number_of := F_number_of,
    g_number_of := g 9 "number_of" rfl,
    b_number_of := F_number_of.bindsN fun _ _ _ _ _ _ us hl => match us, hl with | [_], _ => rfl,
    fd_numbers_of := fd_numbers_of,
    F_numbers_of := F_numbers_of,
    g_numbers_of := g 10 "numbers_of" rfl,
    b_numbers_of := F_numbers_of.bindsN fun _ _ _ _ _ _ us hl => match us, hl with | [_], _ => rfl,
    fd_numbers_behind := fd_numbers_behind,
    F_numbers_behind := F_numbers_behind,
    g_numbers_behind := g 11 "numbers_behind" rfl,
    b_numbers_behind := binds_non (F_numbers_behind.binds1 2 0 (List.cons_ne_nil _ _) rfl fun T _ _ _ _ _ _ us its l1 l2 => match us, its, l1, l2 with | [_, _], [_], _, _ => ⟨_, rfl, rfl⟩),
    kb_numbers_behind := kb_pos F_numbers_behind 2 ["size"] (List.cons_ne_nil _ _) fun _ _ _ _ _ _ _ us its ws l1 l2 l3 => match us, its, ws, l1, l2, l3 with | [_, _], [_], [_], _, _, _ => ⟨_, rfl, rfl⟩,
    fd_place_in_game := fd_place_in_game,
    F_place_in_game := F_place_in_game,
    g_place_in_game := g 12 "place_in_game" rfl,
    b_place_in_game := F_place_in_game.bindsN fun _ _ _ _ _ _ us hl => match us, hl with | [_], _ => rfl,
    fd_way_in_game := fd_way_in_game,
    F_way_in_game := F_way_in_game,
    g_way_in_game := g 13 "way_in_game" rfl,
    b_way_in_game := F_way_in_game.bindsN fun _ _ _ _ _ _ us hl => match us, hl with | [_], _ => rfl,
    fd_taken := fd_taken,
    F_taken := F_taken,
    g_taken := g 14 "taken" rfl,
    b_taken := F_taken.bindsN fun _ _ _ _ _ _ us hl => match us, hl with | [_, _, _], _ => rfl,
    fd_check_end := fd_check_end,
    F_check_end := F_check_end,
    g_check_end := g 15 "check_end" rfl,
    b_check_end := F_check_end.bindsN fun _ _ _ _ _ _ us hl => match us, hl with | [_, _], _ => rfl,
    fd_is_whole := fd_is_whole,
    F_is_whole := F_is_whole,
    g_is_whole := g 16 "is_whole" rfl,
    b_is_whole := F_is_whole.bindsN fun _ _ _ _ _ _ us hl => match us, hl with | [_], _ => rfl,
    fd_is_below := fd_is_below,
    F_is_below := F_is_below,
    g_is_below := g 17 "is_below" rfl,
    b_is_below := F_is_below.bindsN fun _ _ _ _ _ _ us hl => match us, hl with | [_, _], _ => rfl,
    fd_are_below := fd_are_below,
    F_are_below := F_are_below,
    g_are_below := g 18 "are_below" rfl,
    b_are_below := F_are_below.bindsN fun _ _ _ _ _ _ us hl => match us, hl with | [_, _, _], _ => rfl,
    fd_are_owners := fd_are_owners,
    F_are_owners := F_are_owners,
    g_are_owners := g 19 "are_owners" rfl,
    b_are_owners := F_are_owners.bindsN fun _ _ _ _ _ _ us hl => match us, hl with | [_], _ => rfl,
    fd_are_rising := fd_are_rising,
    F_are_rising := F_are_rising,
    g_are_rising := g 20 "are_rising" rfl,
    b_are_rising := F_are_rising.bindsN fun _ _ _ _ _ _ us hl => match us, hl with | [_], _ => rfl,
    fd_are_ways := fd_are_ways,
    F_are_ways := F_are_ways,
    g_are_ways := g 21 "are_ways" rfl,
    b_are_ways := F_are_ways.bindsN fun _ _ _ _ _ _ us hl => match us, hl with | [_, _], _ => rfl,
    fd_fault_of := fd_fault_of,
    F_fault_of := F_fault_of,
    g_fault_of := g 22 "fault_of" rfl,
    b_fault_of := F_fault_of.bindsN fun _ _ _ _ _ _ us hl => match us, hl with | [_, _, _], _ => rfl,
    fd_Game___init__ := fd_Game___init__,
    F_Game___init__ := F_Game___init__,
    b_Game___init__ := F_Game___init__.bindsN fun _ _ _ _ _ _ us hl => match us, hl with | [_, _, _, _], _ => rfl,
    fd_read_game := fd_read_game,
    F_read_game := F_read_game,
    g_read_game := g 23 "read_game" rfl,
    b_read_game := F_read_game.bindsN fun _ _ _ _ _ _ us hl => match us, hl with | [_], _ => rfl,
    fd__law_class := fd__law_class,
    F__law_class := F__law_class,
    g__law_class := g 24 "_law_class" rfl,
    b__law_class := F__law_class.bindsN fun _ _ _ _ _ _ us hl => match us, hl with | [_], _ => rfl,
    fd__law_told := fd__law_told,
    F__law_told := F__law_told,
    g__law_told := g 25 "_law_told" rfl,
    b__law_told := F__law_told.bindsN fun _ _ _ _ _ _ us hl => match us, hl with | [_], _ => rfl,
    fd__law_numbers := fd__law_numbers,
    F__law_numbers := F__law_numbers,
    g__law_numbers := g 26 "_law_numbers" rfl,
    b__law_numbers := F__law_numbers.bindsN fun _ _ _ _ _ _ us hl => match us, hl with | [_], _ => rfl,
    fd__law_read := fd__law_read,
    F__law_read := F__law_read,
    g__law_read := g 27 "_law_read" rfl,
    b__law_read := F__law_read.bindsN fun _ _ _ _ _ _ us hl => match us, hl with | [_], _ => rfl,
    fd__law_due := fd__law_due,
    F__law_due := F__law_due,
    g__law_due := g 28 "_law_due" rfl,
    b__law_due := F__law_due.bindsN fun _ _ _ _ _ _ us hl => match us, hl with | [_], _ => rfl,
    fd_law := fd_law,
    F_law := F_law,
    g_law := g 29 "law" rfl,
    b_law := F_law.bindsN fun _ _ _ _ _ _ us hl => match us, hl with | [_], _ => rfl,
    fd_NoText___init__ := fd_NoText___init__,
    F_NoText___init__ := F_NoText___init__,
    b_NoText___init__ := F_NoText___init__.bindsN fun _ _ _ _ _ _ us hl => match us, hl with | [_, _], _ => rfl,
    fd_NoGame___init__ := fd_NoGame___init__,
    F_NoGame___init__ := F_NoGame___init__,
    b_NoGame___init__ := F_NoGame___init__.bindsN fun _ _ _ _ _ _ us hl => match us, hl with | [_, _], _ => rfl,
    cl_Game := He.cls_ok (c.d.fact 55 (f := .cls "Game") rfl),
    mk_Game := He.mkr_ok (c.d.fact 56 (f := .mkr "Game") rfl),
    g_Game := g 54 "Game" rfl,
    xi_NoText := excI_ok (c0.1.x 0 rfl),
    kit_NoText_NoText := kit_ok (c0.1.x 1 rfl),
    kit_NoText_NoHall := kit_ok (c0.1.x 2 rfl),
    kit_NoText_NoGame := kit_ok (c0.1.x 3 rfl),
    kit_NoText_ValueError := kitT_ok (c0.1.x 4 rfl),
    kitA_NoText_0 := kitA_ok (c0.1.x 5 rfl),
    xi_NoGame := excI_ok (c0.1.x 6 rfl),
    kit_NoGame_NoText := kit_ok (c0.1.x 7 rfl),
    kit_NoGame_NoHall := kit_ok (c0.1.x 8 rfl),
    kit_NoGame_NoGame := kit_ok (c0.1.x 9 rfl),
    kit_NoGame_ValueError := kitT_ok (c0.1.x 10 rfl),
    kitA_NoGame_0 := kitA_ok (c0.1.x 11 rfl),
    oe_NoText := oex_ok (c0.1.x 12 rfl),
    ei_NoText := exi_ok (c0.1.x 13 rfl),
    no_NoText := noa_ok (c0.1.x 14 rfl),
    oe_NoGame := oex_ok (c0.1.x 15 rfl),
    ei_NoGame := exi_ok (c0.1.x 16 rfl),
    no_NoGame := noa_ok (c0.1.x 17 rfl),
    eb_HallError := ebs_ok (c0.1.x 18 rfl),
    g_NoText := g 42 "NoText" rfl,
    g_NoGame := g 43 "NoGame" rfl,
    g_HallError := g 44 "HallError" rfl,
    g_NoHall := g 45 "NoHall" rfl,
    g_NoLine := g 46 "NoLine" rfl,
    g_NoName := g 47 "NoName" rfl,
    g_NoSort := g 48 "NoSort" rfl,
    g_NotCertain := g 49 "NotCertain" rfl,
    g_TooMany := g 50 "TooMany" rfl,
    g_Unlike := g 51 "Unlike" rfl,
    xm_NoText_HallError := He.exm_ok (c.d.fact 52 (f := .exm "NoText" "HallError" true) rfl),
    xm_NoGame_HallError := He.exm_ok (c.d.fact 53 (f := .exm "NoGame" "HallError" true) rfl),
    sysd := c0.2,
    hf_owners := (allC ⟨He.cls_ok (c.d.fact 55 (f := .cls "Game") rfl), He.noat_ok (c.d.fact 57 (f := .noat "Game" "owners") rfl)⟩ allN),
    hf_ranks := (allC ⟨He.cls_ok (c.d.fact 55 (f := .cls "Game") rfl), He.noat_ok (c.d.fact 58 (f := .noat "Game" "ranks") rfl)⟩ allN),
    hf_ways := (allC ⟨He.cls_ok (c.d.fact 55 (f := .cls "Game") rfl), He.noat_ok (c.d.fact 59 (f := .noat "Game" "ways") rfl)⟩ allN),
    t_MOST_FIGURES := t_MOST_FIGURES,
    k_MOST_FIGURES := k_MOST_FIGURES,
    t_FIGURES := t_FIGURES,
    k_FIGURES := k_FIGURES,
    t_SIDES := t_SIDES,
    k_SIDES := k_SIDES,
    t_RANKS := t_RANKS,
    k_RANKS := k_RANKS }
  have b_law := FunD.bindsA (ps := ["_law_script"]) F_law fun _ _ _ _ _ _ us hl => match us, hl with | [_], _ => rfl
  exact ⟨fd_law, fun s v => b_law s [v] rfl, fun base _ _ => w_law N⟩
end EK
open PySem PySem.W PySem.Calls PyProof.Rows
set_option maxHeartbeats 0 in
theorem PySem.Challenge.cw_endlesshall_k82_game_texts_spoilt_anywhe_holds : PySem.Challenge.rw_endlesshall_k82_game_texts_spoilt_anywhe.Holds := by
  w_on; o_law
  refine HandSHeadRun.head_any (r := EK.HD.Rw) (q := view EK.HD.Rw.prog [50]) (H := EK.HD.hk) (ob := EK.HD.ob) (M := 6000) (loose := EK.HD.names) (d := HandSHeadRun.topDef EK.HD.Rw.prog 50) (kwd := []) EK.HD.ob_eq
    (by kernel_rfl) (fun s => by kernel_rfl) EK.HD.run (by kernel_rfl) (by kernel_rfl) (by kernel_rfl) (by rfl) (by first | assumption | decide +kernel) (by decide +kernel) ⟨rfl, rfl, rfl, rfl, rfl, by decide +kernel⟩ ?hw ?hc
  case hw => w_witness2
  case hc =>
    refine EL.walkG (l := PySem.Challenge.rw_endlesshall_k82_game_texts_spoilt_anywhe) (n := 63) (k := 10) (x := "_law_script") rfl (by decide) (by kernel_rfl) ⟨rfl, by decide, by decide⟩ ?F
    intro w mg fa h Y G hmg0
    obtain ⟨K, KX, c⟩ := Y
    have hmg : mg ("law" : PySem.Str) = some (.ref fa) := by
      have e : (HandSHeadRun.topDef EK.HD.Rw.prog 50).name = ("law" : PySem.Str) := by kernel_rfl
      rw [← e]
      exact hmg0
    obtain ⟨fd, hb, hF⟩ := EK.facts (P := (PySem.Challenge.rw_endlesshall_k82_game_texts_spoilt_anywhe).prog) (w := w) KX G hmg c
    exact ⟨K, fd, _, KX, hb, fun H a ns hl _ hS => UX.sp_law EK.law_ok hl hS, hF⟩
